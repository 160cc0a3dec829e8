import PyProof.Rows.All
import Wide.All
import OpenK.AllK
import Wide.FinOn
import HandS.ForMost
import HandS.Exc
import HandS.IsInst
import HandS.TupAny
import HandS.Walk
import HandS.Sort
import HandS.WordsExc
import HandS.ExcOwn
import HandS.ExcInit
import HandS.ExcField
import HandS.TryMany
import HandS.Gcd
import HandS.TupMul
import HandS.SortRule
import HandS.AnyAll
import HandS.TryOnly
import KE.GoesEnum
import KE.KMathGC
import PyProof.WalkInts
import PyProof.TupleIter
import HandS.Defaults
import HandS.CallSlots
import PyProof.Rows.SeqMore
import PySem.Challenge.RW_guardrungs_k24_rules
set_option Elab.async false
set_option linter.all false
set_option maxRecDepth 100000
set_option maxHeartbeats 1000000
/-! Gv: values told by what they mean, slots, own cells -/
namespace Gv
open PySem L2

/-! ### outcomes -/
structure Er where
  c : Str
  fs : List (Str × PyData)
inductive O (ρ lam α : Type) where
  | nx (a : α) | rt (r : ρ) | bk (l : lam) | ct (l : lam) | er (x : Er) | stuck
abbrev R (α : Type) := O Empty Empty α
def O.bind {ρ lam α β : Type} (m : O ρ lam α) (f : α → O ρ lam β) : O ρ lam β :=
  match m with
  | .nx a => f a | .rt r => .rt r | .bk l => .bk l | .ct l => .ct l | .er x => .er x | .stuck => .stuck
/-- a computation of a value, then what follows -/
def bindR {ρ lam α β : Type} (m : R α) (f : α → O ρ lam β) : O ρ lam β :=
  match m with
  | .nx a => f a | .rt r => r.elim | .bk l => l.elim | .ct l => l.elim | .er x => .er x | .stuck => .stuck
def lt {β γ : Type} (e : β) (f : β → γ) : γ := f e
/-- a def's body is at its end -/
def fin {ρ α : Type} (m : O ρ Empty α) (d : α → R ρ) : R ρ :=
  match m with
  | .nx a => d a | .rt r => .nx r | .bk l => l.elim | .ct l => l.elim | .er x => .er x | .stuck => .stuck
/-- a for over items -/
def forO {ρ lam σ β : Type} (f : σ → β → O ρ σ σ) : List β → σ → O ρ lam σ
  | [], s => .nx s
  | x :: xs, s => match f s x with
    | .nx s' => forO f xs s' | .ct s' => forO f xs s' | .bk s' => .nx s' | .rt r => .rt r | .er x => .er x | .stuck => .stuck
/-- a while, at most so many turns -/
def whileO {ρ lam σ : Type} (c : σ → R (σ × Bool)) (f : σ → O ρ σ σ) : Nat → σ → O ρ lam σ
  | 0, _ => .stuck
  | n + 1, s => bindR (c s) fun sb => if sb.2 then (match f sb.1 with
    | .nx s' => whileO c f n s' | .ct s' => whileO c f n s' | .bk s' => .nx s' | .rt r => .rt r | .er x => .er x | .stuck => .stuck) else .nx sb.1
/-- a comprehension; nothing may be raised in it -/
def lcR {σ β γ : Type} (f : σ → β → R (σ × Option γ)) : List β → σ → List γ → R (σ × List γ)
  | [], s, acc => .nx (s, acc)
  | x :: xs, s, acc => match f s x with
    | .nx (s', none) => lcR f xs s' acc
    | .nx (s', some y) => if acc.length < 1000000 then lcR f xs s' (acc ++ [y]) else .stuck
    | _ => .stuck

def Out {ρ lam α : Type} (m : O ρ lam α) (N : α → Prop) (T : ρ → Prop) (B C : lam → Prop) (E : Er → Prop) : Prop :=
  match m with
  | .nx a => N a | .rt r => T r | .bk l => B l | .ct l => C l | .er x => E x | .stuck => False
def OutR {α : Type} (m : R α) (N : α → Prop) (E : Er → Prop) : Prop :=
  match m with
  | .nx a => N a | .rt r => r.elim | .bk l => l.elim | .ct l => l.elim | .er x => E x | .stuck => False
section
variable {ρ lam α β : Type} {N : α → Prop} {N' : β → Prop} {T : ρ → Prop} {B C : lam → Prop} {E : Er → Prop}
theorem Out.bindR {m : R α} {f : α → O ρ lam β} (h : Out (Gv.bindR m f) N' T B C E) : OutR m (fun a => Out (f a) N' T B C E) E := by
  cases m <;> first | exact h | (rename_i z; exact z.elim)
theorem Out.bind {m : O ρ lam α} {f : α → O ρ lam β} (h : Out (m.bind f) N' T B C E) : Out m (fun a => Out (f a) N' T B C E) T B C E := by
  cases m <;> exact h
theorem Out.lt {e : α} {f : α → O ρ lam β} (h : Out (Gv.lt e f) N' T B C E) : Out (f e) N' T B C E := h
theorem OutR.out {m : R α} {T : Empty → Prop} {B C : Empty → Prop} (h : OutR m N E) : Out m N T B C E := by
  cases m <;> first | exact h | (rename_i z; exact z.elim)
theorem Out.outR {m : R α} {T : Empty → Prop} {B C : Empty → Prop} (h : Out m N T B C E) : OutR m N E := by
  cases m <;> first | exact h | (rename_i z; exact z.elim)
theorem OutR.imp {m : R α} {N1 : α → Prop} {E1 : Er → Prop} (h : OutR m N E) (hn : ∀ a, N a → N1 a) (he : ∀ x, E x → E1 x) : OutR m N1 E1 := by
  cases m <;> first | exact hn _ h | exact he _ h | exact h | (rename_i z; exact z.elim)
theorem Out.imp {m : O ρ lam α} {N1 : α → Prop} {T1 : ρ → Prop} {B1 C1 : lam → Prop} {E1 : Er → Prop} (h : Out m N T B C E) (hn : ∀ a, N a → N1 a) (ht : ∀ a, T a → T1 a) (hb : ∀ a, B a → B1 a) (hc : ∀ a, C a → C1 a) (he : ∀ x, E x → E1 x) : Out m N1 T1 B1 C1 E1 := by
  cases m <;> first | exact hn _ h | exact ht _ h | exact hb _ h | exact hc _ h | exact he _ h | exact h
end

/-! ### what a value means -/
abbrev VP := PySem.W.Frag → V → Hp → Prop
def Hd (K : PySem.W.Frag) (p : VP) (v : V) (S : Hp) : Prop := ∃ S0, Same S0 S ∧ p K v S0
theorem Hd.mono {K : PySem.W.Frag} {p : VP} {v : V} {S S' : Hp} (h : Hd K p v S) (e : Same S S') : Hd K p v S' := by
  obtain ⟨S0, a, b⟩ := h
  exact ⟨S0, a.trans e, b⟩
theorem Hd.of {K : PySem.W.Frag} {p : VP} {v : V} {S : Hp} (h : p K v S) : Hd K p v S := ⟨S, Same.refl S, h⟩

abbrev Hds (K : PySem.W.Frag) (S : Hp) : List VP → List V → Prop := Paired fun p v => Hd K p v S
theorem Hds.mono {K : PySem.W.Frag} {ps : List VP} {vs : List V} {S S' : Hp} (h : Hds K S ps vs) (e : Same S S') : Hds K S' ps vs := Paired.mapP h fun _ _ q => q.mono e

inductive Cell where
  | lst (ps : List VP)
  | dk (kvs : List (Key × VP))
def CellOk (K : PySem.W.Frag) (S : Hp) : Cell → HO → Prop
  | .lst ps, o => ∃ vs, o = .lst vs ∧ Hds K S ps vs
  | .dk kvs, o => ∃ vs, o = .dK vs ∧ Paired (fun (p : Key × VP) (v : Key × V) => p.1 = v.1 ∧ Hd K p.2 v.2 S) kvs vs
theorem CellOk.mono {K : PySem.W.Frag} {S S' : Hp} (e : Same S S') : ∀ {c : Cell} {o : HO}, CellOk K S c o → CellOk K S' c o
  | .lst _, _, ⟨vs, h, q⟩ => ⟨vs, h, q.mono e⟩
  | .dk _, _, ⟨vs, h, q⟩ => ⟨vs, h, Paired.mapP q fun _ _ z => ⟨z.1, z.2.mono e⟩⟩

inductive Tm where
  | dat (p : VP)
  | own (oa : Option Addr) (c : Cell)
  | als (i : Nat)
  | bad

structure Gh where
  S0 : Hp
  F : Hp

structure Base (g : Gh) (S H : Hp) : Prop where
  s0 : Same g.S0 S
  sh : Same S H
  fh : Same g.F H
  fs : ∀ b, g.F b ≠ none → g.S0 b = none → S b = none

def OwnAt (K : PySem.W.Frag) (g : Gh) (S H : Hp) (v : V) (oa : Option Addr) (c : Cell) : Prop :=
  ∃ a o, v = .ref a ∧ (∀ b, oa = some b → b = a) ∧ S a = none ∧ g.F a = none ∧ H a = some o ∧ CellOk K S c o
def One (K : PySem.W.Frag) (g : Gh) (S H : Hp) (σ : St) (x : V × Tm) : Prop :=
  match x.2 with
  | .dat p => Hd K p x.1 S
  | .own oa c => OwnAt K g S H x.1 oa c
  | .als i => σ[i]? = some (some x.1)
  | .bad => False
def addrs : List (V × Tm) → List Addr
  | [] => []
  | (.ref a, .own _ _) :: r => a :: addrs r
  | _ :: r => addrs r
def pack : St → List (Option Tm) → List (V × Tm)
  | _, [] => []
  | σ, none :: Γ => pack σ.tail Γ
  | some v :: σ, some t :: Γ => (v, t) :: pack σ Γ
  | none :: σ, some _ :: Γ => (.non, .bad) :: pack σ Γ
  | [], some _ :: Γ => (.non, .bad) :: pack [] Γ

structure AtS (K : PySem.W.Frag) (g : Gh) (S : Hp) (Γ : List (Option Tm)) (σ : St) (τ : List (V × Tm)) (H : Hp) : Prop where
  base : Base g S H
  len : Γ.length ≤ σ.length
  all : ∀ x ∈ pack σ Γ ++ τ, One K g S H σ x
  ns : ∀ x ∈ pack σ Γ, ∀ j, x.2 ≠ .als j
  al : ∀ x ∈ τ, ∀ k, x.2 = .als k → ∃ oa c, Γ[k]? = some (some (.own oa c))
  nd : (addrs (pack σ Γ ++ τ)).Nodup
def At (K : PySem.W.Frag) (g : Gh) (Γ : List (Option Tm)) (σ : St) (τ : List (V × Tm)) (H : Hp) : Prop := ∃ S, AtS K g S Γ σ τ H

/-! ### lists of entries -/
theorem addrs_append : ∀ l m : List (V × Tm), addrs (l ++ m) = addrs l ++ addrs m
  | [], m => rfl
  | (v, t) :: l, m => by
    have ih := addrs_append l m
    cases v <;> cases t <;> simp [addrs, ih]
theorem addrs_perm {l m : List (V × Tm)} (h : l.Perm m) : (addrs l).Perm (addrs m) := by
  induction h with
  | nil => exact .nil
  | cons x _ ih =>
    obtain ⟨v, t⟩ := x
    cases v <;> cases t <;> simp only [addrs] <;> first | exact ih | exact ih.cons _
  | swap x y l =>
    obtain ⟨v, t⟩ := x
    obtain ⟨u, s⟩ := y
    cases v <;> cases t <;> cases u <;> cases s <;> simp only [addrs] <;> first | exact .refl _ | exact .swap _ _ _
  | trans _ _ a b => exact a.trans b
theorem addrs_sub {l m : List (V × Tm)} (h : l.Sublist m) : (addrs l).Sublist (addrs m) := by
  induction h with
  | slnil => exact .slnil
  | cons x _ ih =>
    obtain ⟨v, t⟩ := x
    cases v <;> cases t <;> simp only [addrs] <;> first | exact ih | exact ih.cons _
  | cons_cons x _ ih =>
    obtain ⟨v, t⟩ := x
    cases v <;> cases t <;> simp only [addrs] <;> first | exact ih | exact ih.cons_cons _
theorem addrs_mem {l : List (V × Tm)} {a : Addr} (h : a ∈ addrs l) : ∃ oa c, (V.ref a, Tm.own oa c) ∈ l := by
  induction l with
  | nil => simp [addrs] at h
  | cons x r ih =>
    obtain ⟨v, t⟩ := x
    have go : a ∈ addrs r → ∃ oa c, (V.ref a, Tm.own oa c) ∈ (v, t) :: r := fun h => by
      obtain ⟨oa, c, q⟩ := ih h
      exact ⟨oa, c, List.mem_cons_of_mem _ q⟩
    cases v with
    | ref b =>
      cases t with
      | own oa c =>
        simp only [addrs, List.mem_cons] at h
        rcases h with rfl | h
        · exact ⟨oa, c, List.mem_cons_self⟩
        · exact go h
      | _ => exact go h
    | _ => cases t <;> exact go h
theorem mem_addrs {l : List (V × Tm)} {a : Addr} {oa : Option Addr} {c : Cell} (h : (V.ref a, Tm.own oa c) ∈ l) : a ∈ addrs l := by
  induction l with
  | nil => simp at h
  | cons x r ih =>
    rcases List.mem_cons.mp h with e | h
    · subst e; simp [addrs]
    · have := ih h
      obtain ⟨v, t⟩ := x
      cases v <;> cases t <;> simp [addrs, this]

/-! ### slots -/
theorem pack_get : ∀ {Γ : List (Option Tm)} {σ : St} {i : Nat} {t : Tm}, Γ[i]? = some (some t) → Γ.length ≤ σ.length →
    (∃ v, σ[i]? = some (some v) ∧ (pack σ Γ).Perm ((v, t) :: pack σ (Γ.set i none))) ∨ (V.non, Tm.bad) ∈ pack σ Γ
  | [], _, _, _, h, _ => by simp at h
  | x :: Γ, [], _, _, _, l => by simp at l
  | x :: Γ, y :: σ, 0, t, h, l => by
    simp only [List.getElem?_cons_zero, Option.some.injEq] at h
    subst h
    cases y with
    | none => exact .inr (by simp [pack])
    | some v => exact .inl ⟨v, by simp, by simp [pack]⟩
  | x :: Γ, y :: σ, i + 1, t, h, l => by
    have h' : Γ[i]? = some (some t) := by simpa using h
    have l' : Γ.length ≤ σ.length := by simpa using l
    rcases pack_get h' l' with ⟨v, e, p⟩ | b
    · refine .inl ⟨v, by simpa using e, ?_⟩
      cases x with
      | none => simpa [pack] using p
      | some u =>
        cases y with
        | none => exact (List.Perm.cons _ p).trans (.swap _ _ _)
        | some z => exact (List.Perm.cons _ p).trans (.swap _ _ _)
    · refine .inr ?_
      cases x with
      | none => simpa [pack] using b
      | some u => cases y <;> simp [pack, b]
theorem pack_drop : ∀ (Γ : List (Option Tm)) (σ : St) (i : Nat), (pack σ (Γ.set i none)).Sublist (pack σ Γ)
  | [], σ, i => by simp [pack]
  | x :: Γ, [], 0 => by
    cases x with
    | none => simp [pack]
    | some u => simp [pack]
  | x :: Γ, y :: σ, 0 => by
    cases x with
    | none => simp [pack]
    | some u => cases y <;> simp [pack]
  | x :: Γ, [], i + 1 => by
    have := pack_drop Γ [] i
    cases x with
    | none => simpa [pack] using this
    | some u => simpa [pack] using this
  | x :: Γ, y :: σ, i + 1 => by
    have := pack_drop Γ σ i
    cases x with
    | none => simpa [pack] using this
    | some u => cases y <;> simpa [pack] using this
theorem pack_set : ∀ {Γ : List (Option Tm)} {σ : St} {i : Nat} (v : V) (t : Tm), i < Γ.length → Γ.length ≤ σ.length →
    (pack (σ.set i (some v)) (Γ.set i (some t))).Perm ((v, t) :: pack σ (Γ.set i none))
  | [], _, _, _, _, h, _ => by simp at h
  | x :: Γ, [], _, _, _, _, l => by simp at l
  | x :: Γ, y :: σ, 0, v, t, _, _ => by simp [pack]
  | x :: Γ, y :: σ, i + 1, v, t, h, l => by
    have ih := pack_set (Γ := Γ) (σ := σ) (i := i) v t (by simpa using h) (by simpa using l)
    cases x with
    | none => simpa [pack] using ih
    | some u =>
      cases y with
      | none => exact (List.Perm.cons _ ih).trans (.swap _ _ _)
      | some z => exact (List.Perm.cons _ ih).trans (.swap _ _ _)
theorem pack_none : ∀ (Γ : List (Option Tm)) (σ : St) (i : Nat) (x : Option V), pack (σ.set i x) (Γ.set i none) = pack σ (Γ.set i none)
  | [], σ, i, x => by simp [pack]
  | y :: Γ, [], i, x => by simp
  | y :: Γ, z :: σ, 0, x => by simp [pack]
  | y :: Γ, z :: σ, i + 1, x => by
    have ih := pack_none Γ σ i x
    cases y with
    | none => simpa [pack] using ih
    | some u => cases z <;> simpa [pack] using ih

/-- less is told -/
inductive Le : List (Option Tm) → List (Option Tm) → Prop
  | nil {G : List (Option Tm)} : Le [] G
  | s {x : Option Tm} {G G' : List (Option Tm)} : Le G G' → Le (x :: G) (x :: G')
  | d {x : Option Tm} {G G' : List (Option Tm)} : Le G G' → Le (none :: G) (x :: G')

/-! ### the laws of At -/
section
variable {K : PySem.W.Frag} {g : Gh} {S H : Hp} {Γ : List (Option Tm)} {σ : St} {τ : List (V × Tm)} {v : V} {t : Tm} {p : VP} {ps : List VP} {i : Nat}
theorem One.keep {H' S' : Hp} (e : Same S S') (k : ∀ a, (∃ oa c, t = .own oa c) → v = .ref a → S' a = S a ∧ H' a = H a) (h : One K g S H σ (v, t)) : One K g S' H' σ (v, t) := by
  cases t with
  | dat p => exact Hd.mono h e
  | own oa c =>
    obtain ⟨a, o, rfl, h1, h2, h3, h4, h5⟩ := h
    obtain ⟨k1, k2⟩ := k a ⟨_, _, rfl⟩ rfl
    exact ⟨a, o, rfl, h1, k1.trans h2, h3, k2.trans h4, h5.mono e⟩
  | als i => exact h
  | bad => exact h

theorem AtS.perm {τ' : List (V × Tm)} (h : AtS K g S Γ σ τ H) (p : τ.Perm τ') : AtS K g S Γ σ τ' H :=
  ⟨h.base, h.len, fun x hx => h.all x ((p.append_left _).mem_iff.mpr hx), h.ns, fun x hx => h.al x (p.mem_iff.mpr hx), (addrs_perm (p.append_left _)).nodup_iff.mp h.nd⟩
theorem AtS.pop {x : V × Tm} (h : AtS K g S Γ σ (x :: τ) H) : AtS K g S Γ σ τ H := by
  have sub : (pack σ Γ ++ τ).Sublist (pack σ Γ ++ x :: τ) := List.Sublist.append_left (List.sublist_cons_self _ _) _
  exact ⟨h.base, h.len, fun y hy => h.all y (sub.subset hy), h.ns, fun y hy => h.al y (List.mem_cons_of_mem _ hy), h.nd.sublist (addrs_sub sub)⟩
theorem At.pop {x : V × Tm} (h : At K g Γ σ (x :: τ) H) : At K g Γ σ τ H := by
  obtain ⟨S, h⟩ := h
  exact ⟨S, h.pop⟩
theorem At.pop2 {x y : V × Tm} (h : At K g Γ σ (x :: y :: τ) H) : At K g Γ σ τ H := h.pop.pop
theorem AtS.top (h : AtS K g S Γ σ ((v, t) :: τ) H) : One K g S H σ (v, t) := h.all _ (by simp)
theorem AtS.push (h : AtS K g S Γ σ τ H) (q : Hd K p v S) : AtS K g S Γ σ ((v, .dat p) :: τ) H := by
  refine ⟨h.base, h.len, fun x hx => ?_, h.ns, fun x hx k e => ?_, ?_⟩
  · rcases List.mem_append.mp hx with hx | hx
    · exact h.all x (List.mem_append_left _ hx)
    · rcases List.mem_cons.mp hx with rfl | hx
      · exact q
      · exact h.all x (List.mem_append_right _ hx)
  · rcases List.mem_cons.mp hx with rfl | hx
    · cases e
    · exact h.al x hx k e
  · have e : addrs (pack σ Γ ++ (v, Tm.dat p) :: τ) = addrs (pack σ Γ ++ τ) := by
      rw [addrs_append, addrs_append]
      cases v <;> simp [addrs]
    rw [e]
    exact h.nd
theorem AtS.pushAls {oa : Option Addr} {c : Cell} (h : AtS K g S Γ σ τ H) (q : σ[i]? = some (some v)) (hg : Γ[i]? = some (some (.own oa c))) : AtS K g S Γ σ ((v, .als i) :: τ) H := by
  refine ⟨h.base, h.len, fun x hx => ?_, h.ns, fun x hx k e => ?_, ?_⟩
  · rcases List.mem_append.mp hx with hx | hx
    · exact h.all x (List.mem_append_left _ hx)
    · rcases List.mem_cons.mp hx with rfl | hx
      · exact q
      · exact h.all x (List.mem_append_right _ hx)
  · rcases List.mem_cons.mp hx with rfl | hx
    · cases e
      exact ⟨oa, c, hg⟩
    · exact h.al x hx k e
  · have e : addrs (pack σ Γ ++ (v, Tm.als i) :: τ) = addrs (pack σ Γ ++ τ) := by
      rw [addrs_append, addrs_append]
      cases v <;> simp [addrs]
    rw [e]
    exact h.nd
theorem AtS.slot (h : AtS K g S Γ σ τ H) (e : Γ[i]? = some (some t)) : ∃ v, σ[i]? = some (some v) ∧ One K g S H σ (v, t) ∧ (pack σ Γ).Perm ((v, t) :: pack σ (Γ.set i none)) := by
  rcases pack_get e h.len with ⟨v, h1, h2⟩ | b
  · exact ⟨v, h1, h.all _ (List.mem_append_left _ (h2.mem_iff.mpr List.mem_cons_self)), h2⟩
  · exact (h.all _ (List.mem_append_left _ b)).elim
/-- an object is laid and belongs to what stands still -/
theorem AtS.lay {a : Addr} {o : HO} (h : AtS K g S Γ σ τ H) (n : H a = none) : AtS K g (upd S a o) Γ σ τ (upd H a o) := by
  have nS : S a = none := by
    cases e : S a with
    | none => rfl
    | some u => rw [h.base.sh a u e] at n; cases n
  have nF : g.F a = none := by
    cases e : g.F a with
    | none => rfl
    | some u => rw [h.base.fh a u e] at n; cases n
  have e1 : Same S (upd S a o) := fun b u e => by rw [upd_ne (ne_of_none e nS)]; exact e
  refine ⟨⟨h.base.s0.trans e1, fun b u e => ?_, fun b u e => ?_, fun b hb h0 => ?_⟩, h.len, fun x hx => ?_, h.ns, h.al, h.nd⟩
  · by_cases hb : b = a
    · subst hb; rw [upd_same] at e ⊢; exact e
    · rw [upd_ne hb] at e ⊢; exact h.base.sh b u e
  · rw [upd_ne (ne_of_none e nF)]; exact h.base.fh b u e
  · have : b ≠ a := fun z => hb (z ▸ nF)
    rw [upd_ne this]; exact h.base.fs b hb h0
  · obtain ⟨v, t⟩ := x
    have q := h.all _ hx
    refine q.keep e1 fun b ht hv => ?_
    obtain ⟨oa, c, rfl⟩ := ht
    subst hv
    obtain ⟨a', o', ea, _, _, _, h4, _⟩ := q
    cases ea
    have : b ≠ a := ne_of_none h4 n
    rw [upd_ne this, upd_ne this]
    exact ⟨rfl, rfl⟩
/-- a new own cell -/
theorem AtS.freshA {a : Addr} {o : HO} {c : Cell} {oa : Option Addr} (hoa : ∀ b, oa = some b → b = a) (h : AtS K g S Γ σ τ H) (n : H a = none) (k : CellOk K S c o) : AtS K g S Γ σ ((.ref a, .own oa c) :: τ) (upd H a o) := by
  have nS : S a = none := by
    cases e : S a with
    | none => rfl
    | some u => rw [h.base.sh a u e] at n; cases n
  have nF : g.F a = none := by
    cases e : g.F a with
    | none => rfl
    | some u => rw [h.base.fh a u e] at n; cases n
  have old : ∀ x ∈ pack σ Γ ++ τ, One K g S (upd H a o) σ x := fun x hx => by
    obtain ⟨v, t⟩ := x
    have q := h.all _ hx
    refine q.keep (Same.refl S) fun b ht hv => ⟨rfl, ?_⟩
    obtain ⟨oa', c', rfl⟩ := ht
    subst hv
    obtain ⟨a', o', ea, _, _, _, h4, _⟩ := q
    cases ea
    exact upd_ne (ne_of_none h4 n)
  refine ⟨⟨h.base.s0, fun b u e => ?_, fun b u e => ?_, h.base.fs⟩, h.len, fun x hx => ?_, h.ns, fun x hx k e => ?_, ?_⟩
  · rw [upd_ne (ne_of_none e nS)]; exact h.base.sh b u e
  · rw [upd_ne (ne_of_none e nF)]; exact h.base.fh b u e
  · rcases List.mem_append.mp hx with hx | hx
    · exact old x (List.mem_append_left _ hx)
    · rcases List.mem_cons.mp hx with rfl | hx
      · exact ⟨a, o, rfl, hoa, nS, nF, upd_same, k⟩
      · exact old x (List.mem_append_right _ hx)
  · rcases List.mem_cons.mp hx with rfl | hx
    · cases e
    · exact h.al x hx k e
  · have p : (pack σ Γ ++ (V.ref a, Tm.own oa c) :: τ).Perm ((V.ref a, Tm.own oa c) :: (pack σ Γ ++ τ)) := List.perm_middle
    refine (addrs_perm p).nodup_iff.mpr ?_
    show (a :: addrs (pack σ Γ ++ τ)).Nodup
    refine List.nodup_cons.mpr ⟨fun hm => ?_, h.nd⟩
    obtain ⟨oa', c', hx⟩ := addrs_mem hm
    obtain ⟨a', o', ea, _, _, _, h4, _⟩ := h.all _ hx
    cases ea
    rw [n] at h4; cases h4
theorem AtS.fresh {a : Addr} {o : HO} {c : Cell} (h : AtS K g S Γ σ τ H) (n : H a = none) (k : CellOk K S c o) : AtS K g S Γ σ ((.ref a, .own none c) :: τ) (upd H a o) :=
  h.freshA (fun b z => nomatch z) n k
/-- the own cell on top stands still from now on -/
theorem AtS.freeze {oa : Option Addr} {c : Cell} (h : AtS K g S Γ σ ((v, .own oa c) :: τ) H) :
    ∃ a o, v = .ref a ∧ H a = some o ∧ S a = none ∧ CellOk K S c o ∧ AtS K g (upd S a o) Γ σ τ H := by
  obtain ⟨a, o, rfl, h1, nS, nF, h4, h5⟩ := h.top
  refine ⟨a, o, rfl, h4, nS, h5, ?_⟩
  have e1 : Same S (upd S a o) := fun b u e => by rw [upd_ne (ne_of_none e nS)]; exact e
  have p : (pack σ Γ ++ (V.ref a, Tm.own oa c) :: τ).Perm ((V.ref a, Tm.own oa c) :: (pack σ Γ ++ τ)) := List.perm_middle
  have nd : (a :: addrs (pack σ Γ ++ τ)).Nodup := (addrs_perm p).nodup_iff.mp h.nd
  obtain ⟨n1, n2⟩ := List.nodup_cons.mp nd
  refine ⟨⟨h.base.s0.trans e1, fun b u e => ?_, h.base.fh, fun b hb h0 => ?_⟩, h.len, fun x hx => ?_, h.ns, fun x hx => h.al x (List.mem_cons_of_mem _ hx), n2⟩
  · by_cases hb : b = a
    · subst hb; rw [upd_same] at e; rw [← e]; exact h4
    · rw [upd_ne hb] at e; exact h.base.sh b u e
  · have : b ≠ a := fun z => hb (z ▸ nF)
    rw [upd_ne this]; exact h.base.fs b hb h0
  · obtain ⟨v, t⟩ := x
    have q := h.all _ (p.mem_iff.mpr (List.mem_cons_of_mem _ hx))
    refine q.keep e1 fun b ht hv => ⟨?_, rfl⟩
    obtain ⟨oa', c', rfl⟩ := ht
    subst hv
    exact upd_ne fun z => n1 (by rw [← z]; exact mem_addrs hx)
/-- the cell of slot i is changed -/
theorem AtS.write {oa : Option Addr} {c c' : Cell} {o' : HO} (h : AtS K g S Γ σ τ H) (e : Γ[i]? = some (some (.own oa c))) (k : CellOk K S c' o') :
    ∃ a o, σ[i]? = some (some (.ref a)) ∧ H a = some o ∧ CellOk K S c o ∧ AtS K g S (Γ.set i (some (.own oa c'))) σ τ (upd H a o') := by
  obtain ⟨v, e1, q, p⟩ := h.slot e
  obtain ⟨a, o, rfl, h1, nS, nF, h4, h5⟩ := q
  refine ⟨a, o, e1, h4, h5, ?_⟩
  have hi : i < Γ.length := (List.getElem?_eq_some_iff.mp e).1
  have p1 : (pack σ Γ ++ τ).Perm ((V.ref a, Tm.own oa c) :: (pack σ (Γ.set i none) ++ τ)) := List.Perm.append_right τ p
  have hs : σ.set i (some (.ref a)) = σ := by
    apply List.ext_getElem?
    intro j
    by_cases hj : i = j
    · subst hj
      rw [List.getElem?_set_self (List.getElem?_eq_some_iff.mp e1).1, e1]
    · rw [List.getElem?_set_ne hj]
  have p2 : (pack σ (Γ.set i (some (.own oa c'))) ++ τ).Perm ((V.ref a, Tm.own oa c') :: (pack σ (Γ.set i none) ++ τ)) := by
    have := List.Perm.append_right τ (pack_set (Γ := Γ) (σ := σ) (i := i) (V.ref a) (.own oa c') hi h.len)
    rw [hs] at this
    exact this
  have nd : (a :: addrs (pack σ (Γ.set i none) ++ τ)).Nodup := (addrs_perm p1).nodup_iff.mp h.nd
  obtain ⟨n1, n2⟩ := List.nodup_cons.mp nd
  refine ⟨⟨h.base.s0, fun b u z => ?_, fun b u z => ?_, h.base.fs⟩, by rw [List.length_set]; exact h.len, fun x hx => ?_, fun x hx j => ?_, fun x hx j ej => ?_, (addrs_perm p2).nodup_iff.mpr nd⟩
  · rw [upd_ne (ne_of_none z nS)]; exact h.base.sh b u z
  · rw [upd_ne (ne_of_none z nF)]; exact h.base.fh b u z
  · rcases List.mem_cons.mp (p2.mem_iff.mp hx) with rfl | hx
    · exact ⟨a, o', rfl, h1, nS, nF, upd_same, k⟩
    · obtain ⟨v, t⟩ := x
      have q := h.all _ (p1.mem_iff.mpr (List.mem_cons_of_mem _ hx))
      refine q.keep (Same.refl S) fun b ht hv => ⟨rfl, ?_⟩
      obtain ⟨oa', c'', rfl⟩ := ht
      subst hv
      exact upd_ne fun z => n1 (by rw [← z]; exact mem_addrs hx)
  · have q := pack_set (Γ := Γ) (σ := σ) (i := i) (V.ref a) (.own oa c') hi h.len
    rw [hs] at q
    rcases List.mem_cons.mp (q.mem_iff.mp hx) with rfl | hx
    · intro z; cases z
    · exact h.ns x ((pack_drop Γ σ i).subset hx) j
  · obtain ⟨oa2, c2, e2⟩ := h.al x hx j ej
    by_cases hj : i = j
    · subst hj
      exact ⟨oa, c', List.getElem?_set_self hi⟩
    · exact ⟨oa2, c2, by rw [List.getElem?_set_ne hj]; exact e2⟩
/-- slot i takes the value on top; nothing else on the stack stands for slot i -/
theorem AtS.set (h : AtS K g S Γ σ ((v, t) :: τ) H) (hi : i < Γ.length) (ht : ∀ j, t ≠ .als j) (hτ : ∀ x ∈ τ, ∀ k, x.2 = .als k → k ≠ i) : AtS K g S (Γ.set i (some t)) (σ.set i (some v)) τ H := by
  have p := pack_set (Γ := Γ) (σ := σ) (i := i) v t hi h.len
  have sub : ((v, t) :: (pack σ (Γ.set i none) ++ τ)).Sublist ((v, t) :: (pack σ Γ ++ τ)) := ((pack_drop Γ σ i).append_right τ).cons_cons _
  have p2 : (pack σ Γ ++ (v, t) :: τ).Perm ((v, t) :: (pack σ Γ ++ τ)) := List.perm_middle
  have p3 : (pack (σ.set i (some v)) (Γ.set i (some t)) ++ τ).Perm ((v, t) :: (pack σ (Γ.set i none) ++ τ)) := p.append_right τ
  refine ⟨h.base, by rw [List.length_set, List.length_set]; exact h.len, fun x hx => ?_, fun x hx j => ?_, fun x hx k e => ?_, ?_⟩
  · have hx2 := p3.mem_iff.mp hx
    have hx3 := p2.mem_iff.mpr (sub.subset hx2)
    have q := h.all x hx3
    obtain ⟨v', t'⟩ := x
    cases t' with
    | als j =>
      rcases List.mem_cons.mp hx2 with e | hm
      · cases e; exact absurd rfl (ht j)
      · rcases List.mem_append.mp hm with hm | hm
        · exact absurd rfl (h.ns _ ((pack_drop Γ σ i).subset hm) j)
        · have q' : σ[j]? = some (some v') := q
          show (σ.set i (some v))[j]? = some (some v')
          rw [List.getElem?_set_ne (Ne.symm (hτ _ hm j rfl))]; exact q'
    | dat _ => exact q
    | own _ _ => exact q
    | bad => exact q
  · rcases List.mem_cons.mp (p.mem_iff.mp hx) with rfl | hm
    · exact ht j
    · exact h.ns _ ((pack_drop Γ σ i).subset hm) j
  · obtain ⟨oa, c, q⟩ := h.al x (List.mem_cons_of_mem _ hx) k e
    exact ⟨oa, c, by rw [List.getElem?_set_ne (Ne.symm (hτ x hx k e))]; exact q⟩
  · exact (addrs_perm p3).nodup_iff.mpr (((addrs_perm p2).nodup_iff.mp h.nd).sublist (addrs_sub sub))
/-- a slot that nothing is told of may hold anything -/
theorem AtS.any (h : AtS K g S Γ σ τ H) (hn : Γ[i]? = some none ∨ Γ[i]? = none) (x : Option V) : AtS K g S Γ (σ.set i x) τ H := by
  have eΓ : Γ.set i none = Γ := by
    apply List.ext_getElem?
    intro j
    by_cases hj : i = j
    · subst hj
      rcases hn with hn | hn
      · rw [List.getElem?_set_self (List.getElem?_eq_some_iff.mp hn).1, hn]
      · rw [List.set_eq_of_length_le (List.getElem?_eq_none_iff.mp hn)]
    · rw [List.getElem?_set_ne hj]
  have e : pack (σ.set i x) Γ = pack σ Γ := by
    have := pack_none Γ σ i x
    rw [eΓ] at this
    exact this
  refine ⟨h.base, by rw [List.length_set]; exact h.len, fun y hy => ?_, by rw [e]; exact h.ns, h.al, by rw [e]; exact h.nd⟩
  rw [e] at hy
  have q := h.all y hy
  obtain ⟨v', t'⟩ := y
  cases t' with
  | als k =>
    show (σ.set i x)[k]? = some (some v')
    have q' : σ[k]? = some (some v') := q
    have hk : i ≠ k := fun z => by
      rcases List.mem_append.mp hy with hm | hm
      · exact h.ns _ hm k rfl
      · obtain ⟨oa, c, q2⟩ := h.al _ hm k rfl
        rw [← z] at q2
        rcases hn with hn | hn <;> rw [hn] at q2 <;> cases q2
    rw [List.getElem?_set_ne hk]; exact q'
  | dat _ => exact q
  | own _ _ => exact q
  | bad => exact q
theorem Le.refl : ∀ Γ : List (Option Tm), Le Γ Γ
  | [] => .nil
  | _ :: Γ => .s (Le.refl Γ)
theorem Le.len {Γ Γ' : List (Option Tm)} (h : Le Γ Γ') : Γ.length ≤ Γ'.length := by
  induction h <;> simp_all
theorem Le.sub {Γ Γ' : List (Option Tm)} (h : Le Γ Γ') : ∀ σ : St, (pack σ Γ).Sublist (pack σ Γ') := by
  induction h with
  | nil => intro σ; simp [pack]
  | @s x _ _ _ ih =>
    intro σ
    cases x with
    | none => simpa [pack] using ih σ.tail
    | some t =>
      cases σ with
      | nil => simpa [pack] using ih []
      | cons y σ => cases y <;> simpa [pack] using ih σ
  | @d x _ _ _ ih =>
    intro σ
    cases x with
    | none => simpa [pack] using ih σ.tail
    | some t =>
      cases σ with
      | nil => simpa [pack] using (ih []).cons _
      | cons y σ => cases y <;> simpa [pack] using (ih σ).cons _
theorem At.weak {Γ' : List (Option Tm)} (h : At K g Γ σ [] H) (l : Le Γ' Γ) : At K g Γ' σ [] H := by
  obtain ⟨S, h⟩ := h
  have sub : (pack σ Γ' ++ []).Sublist (pack σ Γ ++ []) := (l.sub σ).append_right []
  exact ⟨S, h.base, Nat.le_trans l.len h.len, fun x hx => h.all x (sub.subset hx), fun x hx => h.ns x ((l.sub σ).subset hx), fun x hx => (by cases hx), h.nd.sublist (addrs_sub sub)⟩
theorem At.weak1 {Γ' : List (Option Tm)} (h : At K g Γ σ [(v, t)] H) (l : Le Γ' Γ) (ht : ∀ j, t ≠ .als j) : At K g Γ' σ [(v, t)] H := by
  obtain ⟨S, h⟩ := h
  have sub : (pack σ Γ' ++ [(v, t)]).Sublist (pack σ Γ ++ [(v, t)]) := (l.sub σ).append_right _
  exact ⟨S, h.base, Nat.le_trans l.len h.len, fun x hx => h.all x (sub.subset hx), fun x hx => h.ns x ((l.sub σ).subset hx), fun x hx k e => by
    have : x = (v, t) := by simpa using hx
    subst this
    exact absurd e (ht k), h.nd.sublist (addrs_sub sub)⟩
theorem pack_congr : ∀ {Γ : List (Option Tm)} {σ σ' : St}, (∀ (i : Nat) (t : Tm), Γ[i]? = some (some t) → σ'[i]? = σ[i]?) → Γ.length ≤ σ.length → Γ.length ≤ σ'.length → pack σ' Γ = pack σ Γ
  | [], _, _, _, _, _ => by simp [pack]
  | x :: Γ, [], _, _, l, _ => by simp at l
  | x :: Γ, _ :: _, [], _, _, l => by simp at l
  | x :: Γ, y :: σ, y' :: σ', h, l, l' => by
    have ih := pack_congr (Γ := Γ) (σ := σ) (σ' := σ') (fun i t e => by have := h (i + 1) t (by simpa using e); simpa using this) (by simpa using l) (by simpa using l')
    cases x with
    | none => simpa [pack] using ih
    | some t =>
      have e : y' = y := by have := h 0 t (by simp); simpa using this
      subst e
      cases y' <;> simp [pack, ih]
/-- slots that nothing is told of may be others -/
theorem AtS.slots {σ' : St} (h : AtS K g S Γ σ τ H) (e : ∀ (i : Nat) (t : Tm), Γ[i]? = some (some t) → σ'[i]? = σ[i]?) (l : Γ.length ≤ σ'.length) : AtS K g S Γ σ' τ H := by
  have ep := pack_congr e h.len l
  refine ⟨h.base, l, fun x hx => ?_, by rw [ep]; exact h.ns, h.al, by rw [ep]; exact h.nd⟩
  rw [ep] at hx
  have q := h.all x hx
  obtain ⟨v', t'⟩ := x
  cases t' with
  | als k =>
    rcases List.mem_append.mp hx with hm | hm
    · exact absurd rfl (h.ns _ hm k)
    · obtain ⟨oa, c, q2⟩ := h.al _ hm k rfl
      show σ'[k]? = some (some v')
      rw [e k _ q2]
      exact q
  | dat _ => exact q
  | own _ _ => exact q
  | bad => exact q
/-- a datum's slot is forgotten -/
theorem AtS.drop1 (h : AtS K g S Γ σ τ H) (e : Γ[i]? = some (some (.dat p))) : AtS K g S (Γ.set i none) σ τ H := by
  have sub : (pack σ (Γ.set i none) ++ τ).Sublist (pack σ Γ ++ τ) := (pack_drop Γ σ i).append_right τ
  refine ⟨h.base, by rw [List.length_set]; exact h.len, fun x hx => h.all x (sub.subset hx), fun x hx => h.ns x ((pack_drop Γ σ i).subset hx), fun x hx k ek => ?_, h.nd.sublist (addrs_sub sub)⟩
  obtain ⟨oa, c, q⟩ := h.al x hx k ek
  have hk : i ≠ k := fun z => by rw [z, q] at e; cases e
  exact ⟨oa, c, by rw [List.getElem?_set_ne hk]; exact q⟩
/-- the own list on the stack, below one value, is changed -/
theorem AtS.writeT {oa : Option Addr} {c c' : Cell} {o' : HO} {a : Addr} (h : AtS K g S Γ σ ((.ref a, .own oa c) :: τ) H) (k : CellOk K S c' o') :
    ∃ o, H a = some o ∧ CellOk K S c o ∧ AtS K g S Γ σ ((.ref a, .own oa c') :: τ) (upd H a o') := by
  obtain ⟨a', o, ea, h1, nS, nF, h4, h5⟩ := h.top
  cases ea
  refine ⟨o, h4, h5, ?_⟩
  have p : ∀ c : Cell, (pack σ Γ ++ (V.ref a, Tm.own oa c) :: τ).Perm ((V.ref a, Tm.own oa c) :: (pack σ Γ ++ τ)) := fun c => List.perm_middle
  have nd : (a :: addrs (pack σ Γ ++ τ)).Nodup := (addrs_perm (p c)).nodup_iff.mp h.nd
  obtain ⟨n1, n2⟩ := List.nodup_cons.mp nd
  refine ⟨⟨h.base.s0, fun b u z => ?_, fun b u z => ?_, h.base.fs⟩, h.len, fun x hx => ?_, h.ns, fun x hx j e => ?_, (addrs_perm (p c')).nodup_iff.mpr nd⟩
  · rw [upd_ne (ne_of_none z nS)]; exact h.base.sh b u z
  · rw [upd_ne (ne_of_none z nF)]; exact h.base.fh b u z
  · rcases List.mem_cons.mp ((p c').mem_iff.mp hx) with rfl | hx
    · exact ⟨a, o', rfl, h1, nS, nF, upd_same, k⟩
    · obtain ⟨v, t⟩ := x
      have q := h.all _ ((p c).mem_iff.mpr (List.mem_cons_of_mem _ hx))
      refine q.keep (Same.refl S) fun b ht hv => ⟨rfl, ?_⟩
      obtain ⟨oa', c'', rfl⟩ := ht
      subst hv
      exact upd_ne fun z => n1 (by rw [← z]; exact mem_addrs hx)
  · rcases List.mem_cons.mp hx with rfl | hx
    · cases e
    · exact h.al x (List.mem_cons_of_mem _ hx) j e
/-- from a later ghost back to an earlier one -/
theorem AtS.reS (h : AtS K g S Γ σ τ H) : AtS K ⟨S, g.F⟩ S Γ σ τ H :=
  ⟨⟨Same.refl S, h.base.sh, h.base.fh, fun b _ h0 => h0⟩, h.len, h.all, h.ns, h.al, h.nd⟩
theorem AtS.unS {S1 : Hp} (h : AtS K ⟨S1, g.F⟩ S Γ σ τ H) (e : Same g.S0 S1) (f : ∀ b, g.F b ≠ none → g.S0 b = none → S1 b = none) : AtS K g S Γ σ τ H :=
  ⟨⟨e.trans h.base.s0, h.base.sh, h.base.fh, fun b hb h0 => h.base.fs b hb (f b hb h0)⟩, h.len, h.all, h.ns, h.al, h.nd⟩
end
end Gv

set_option Elab.async false
set_option linter.all false
set_option maxRecDepth 100000
set_option maxHeartbeats 1000000
/-! Gv: expressions -/
namespace Gv
open PySem L2

/-! ### kinds of values -/
def eI (i : Int) : VP := fun _ v _ => v = .int i
def eB (b : Bool) : VP := fun _ v _ => v = .bl b
def eS (s : Str) : VP := fun _ v _ => v = .str s
def eN : VP := fun _ v _ => v = .non
def eU (_ : Unit) : VP := eN
def eO {α : Type} (e : α → VP) : Option α → VP
  | none => eN
  | some a => e a
def eV (x : V) : VP := fun _ v _ => v = x
def rT (ps : List VP) : VP := fun K v H => ∃ a vs, v = .ref a ∧ SqT K H a vs ∧ Hds K H ps vs
def rL (ps : List VP) : VP := fun K v H => ∃ a vs, v = .ref a ∧ SqL K H a vs ∧ Hds K H ps vs
def eT {α : Type} (e : α → VP) (xs : List α) : VP := rT (xs.map e)
def eL {α : Type} (e : α → VP) (xs : List α) : VP := rL (xs.map e)
def eP1 {α : Type} (e : α → VP) (x : α) : VP := rT [e x]
def eP2 {α β : Type} (e : α → VP) (f : β → VP) (x : α × β) : VP := rT [e x.1, f x.2]
def eP3 {α β γ : Type} (e : α → VP) (f : β → VP) (h : γ → VP) (x : α × β × γ) : VP := rT [e x.1, f x.2.1, h x.2.2]
def eP4 {α β γ δ : Type} (e : α → VP) (f : β → VP) (h : γ → VP) (k : δ → VP) (x : α × β × γ × δ) : VP := rT [e x.1, f x.2.1, h x.2.2.1, k x.2.2.2]
def eD (d : PyData) : VP := fun K v H => Dp K H v d
/-- a list of one's own, of typed items -/
def oL {α : Type} (e : α → VP) (xs : List α) : Tm := .own none (.lst (xs.map e))

theorem Hd.i {K : PySem.W.Frag} {i : Int} {v : V} {S : Hp} (h : Hd K (eI i) v S) : v = .int i := by obtain ⟨_, _, h⟩ := h; exact h
theorem Hd.b {K : PySem.W.Frag} {b : Bool} {v : V} {S : Hp} (h : Hd K (eB b) v S) : v = .bl b := by obtain ⟨_, _, h⟩ := h; exact h
theorem Hd.s {K : PySem.W.Frag} {s : Str} {v : V} {S : Hp} (h : Hd K (eS s) v S) : v = .str s := by obtain ⟨_, _, h⟩ := h; exact h
theorem Hd.n {K : PySem.W.Frag} {v : V} {S : Hp} (h : Hd K eN v S) : v = .non := by obtain ⟨_, _, h⟩ := h; exact h
theorem Hd.v {K : PySem.W.Frag} {x v : V} {S : Hp} (h : Hd K (eV x) v S) : v = x := by obtain ⟨_, _, h⟩ := h; exact h
theorem same_t {K : PySem.W.Frag} {H H' : Hp} {a : Addr} {xs : List V} (e : Same H H') (h : SqT K H a xs) : SqT K H' a xs := by
  rcases h with (h | ⟨o, h⟩) | h
  · exact .inl (.inl (e _ _ h))
  · exact .inl (.inr ⟨o, e _ _ h⟩)
  · exact .inr h
theorem Hd.t {K : PySem.W.Frag} {ps : List VP} {v : V} {S : Hp} (h : Hd K (rT ps) v S) : ∃ a vs, v = .ref a ∧ SqT K S a vs ∧ Hds K S ps vs := by
  obtain ⟨S0, e, a, vs, h1, h2, h3⟩ := h
  exact ⟨a, vs, h1, same_t e h2, h3.mono e⟩
theorem Hd.l {K : PySem.W.Frag} {ps : List VP} {v : V} {S : Hp} (h : Hd K (rL ps) v S) : ∃ a vs, v = .ref a ∧ SqL K S a vs ∧ Hds K S ps vs := by
  obtain ⟨S0, e, a, vs, h1, h2, h3⟩ := h
  exact ⟨a, vs, h1, e.seq h2, h3.mono e⟩
theorem Hds.get {K : PySem.W.Frag} {S : Hp} : ∀ {ps : List VP} {vs : List V} {i : Nat} {p : VP}, Hds K S ps vs → ps[i]? = some p → ∃ v, vs[i]? = some v ∧ Hd K p v S
  | _, _, _, _, .nil, h => by simp at h
  | _, _, 0, p, .cons r _, h => by
    simp only [List.getElem?_cons_zero, Option.some.injEq] at h
    subst h
    exact ⟨_, by simp, r⟩
  | _, _, i + 1, p, .cons _ t, h => by
    obtain ⟨v, h1, h2⟩ := Hds.get (i := i) (p := p) t (by simpa using h)
    exact ⟨v, by simpa using h1, h2⟩
theorem Hds.len {K : PySem.W.Frag} {S : Hp} {ps : List VP} {vs : List V} (h : Hds K S ps vs) : vs.length = ps.length := (Paired.length h).symm
theorem Hds.append {K : PySem.W.Frag} {S : Hp} : ∀ {ps qs : List VP} {vs ws : List V}, Hds K S ps vs → Hds K S qs ws → Hds K S (ps ++ qs) (vs ++ ws)
  | _, _, _, _, .nil, q => q
  | _, _, _, _, .cons r t, q => .cons r (Hds.append t q)
theorem Hds.take {K : PySem.W.Frag} {S : Hp} : ∀ {ps : List VP} {vs : List V} (n : Nat), Hds K S ps vs → Hds K S (ps.take n) (vs.take n)
  | _, _, 0, _ => by simpa using Paired.nil
  | _, _, _ + 1, .nil => .nil
  | _, _, n + 1, .cons r t => .cons r (Hds.take n t)
theorem Hds.drop {K : PySem.W.Frag} {S : Hp} : ∀ {ps : List VP} {vs : List V} (n : Nat), Hds K S ps vs → Hds K S (ps.drop n) (vs.drop n)
  | _, _, 0, h => by simpa using h
  | _, _, _ + 1, .nil => .nil
  | _, _, n + 1, .cons _ t => Hds.drop n t
theorem Hds.set {K : PySem.W.Frag} {S : Hp} {p : VP} {v : V} (h : Hd K p v S) : ∀ {ps : List VP} {vs : List V} (n : Nat), Hds K S ps vs → Hds K S (ps.set n p) (vs.set n v)
  | _, _, _, .nil => .nil
  | _, _, 0, .cons _ t => .cons h t
  | _, _, n + 1, .cons r t => .cons r (Hds.set h n t)
theorem Hds.rev {K : PySem.W.Frag} {S : Hp} {ps : List VP} {vs : List V} (h : Hds K S ps vs) : Hds K S ps.reverse vs.reverse := by
  induction h with
  | nil => exact .nil
  | cons r t ih => rw [List.reverse_cons, List.reverse_cons]; exact Hds.append ih (.cons r .nil)
theorem Hds.dropLast {K : PySem.W.Frag} {S : Hp} {ps : List VP} {vs : List V} (h : Hds K S ps vs) : Hds K S ps.dropLast vs.dropLast := by
  rw [List.dropLast_eq_take, List.dropLast_eq_take, h.len]
  exact h.take _

/-! ### judgements -/
section
variable (K : PySem.W.Frag) (Γ : List (Option Tm))
def EV (te : TE) (t : Tm) : Prop := ∀ g σ τ H (Q : VK), At K g Γ σ τ H → (∀ v H', At K g Γ σ ((v, t) :: τ) H' → Q v H') → te σ H Q
def EVB (tt : TT) (b : Bool) : Prop := ∀ g σ τ H (Q : Bool → Hp → Prop), At K g Γ σ τ H → (∀ H', At K g Γ σ τ H' → Q b H') → tt σ H Q
/-- arguments: the values stand on the stack, the last one on top -/
def EA (ta : TA) (ts : List Tm) : Prop := ∀ g σ τ H (Q : List V → Hp → Prop), At K g Γ σ τ H → (∀ vs H', vs.length = ts.length → At K g Γ σ ((vs.zip ts).reverse ++ τ) H' → Q vs H') → ta σ H Q
def O1 (r : V → Hp → VK → Prop) (t z : Tm) : Prop := ∀ g σ τ H x (Q : VK), At K g Γ σ ((x, t) :: τ) H → (∀ v H', At K g Γ σ ((v, z) :: τ) H' → Q v H') → r x H Q
def O2 (r : R2) (t u z : Tm) : Prop := ∀ g σ τ H x y (Q : VK), At K g Γ σ ((y, u) :: (x, t) :: τ) H → (∀ v H', At K g Γ σ ((v, z) :: τ) H' → Q v H') → r x y H Q
def O1M {γ : Type} (r : V → Hp → VK → Prop) (t : Tm) (m : R γ) (z : γ → Tm) : Prop := ∀ g σ τ H x (Q : VK) (E : Er → Prop), At K g Γ σ ((x, t) :: τ) H → OutR m (fun c => ∀ v H', At K g Γ σ ((v, z c) :: τ) H' → Q v H') E → r x H Q
def O2M {γ : Type} (r : R2) (t u : Tm) (m : R γ) (z : γ → Tm) : Prop := ∀ g σ τ H x y (Q : VK) (E : Er → Prop), At K g Γ σ ((y, u) :: (x, t) :: τ) H → OutR m (fun c => ∀ v H', At K g Γ σ ((v, z c) :: τ) H' → Q v H') E → r x y H Q
end

/-- a partial step -/
def gd (c : Bool) {α : Type} (a : α) : R α := if c then .nx a else .stuck
theorem OutR.gd {α : Type} {c : Bool} {a : α} {N : α → Prop} {E : Er → Prop} (h : OutR (Gv.gd c a) N E) : c = true ∧ N a := by
  unfold Gv.gd at h
  cases c with
  | true => exact ⟨rfl, h⟩
  | false => exact h.elim

section
variable {K : PySem.W.Frag} {Γ : List (Option Tm)} {g : Gh} {S H : Hp} {σ : St} {τ : List (V × Tm)} {v x y : V} {t u z w : Tm} {p q : VP} {ps qs : List VP} {i : Nat} {ta tb tc te : TE} {r r' : R2}

theorem At.scal (h : At K g Γ σ τ H) (q : ∀ S, p K v S) : At K g Γ σ ((v, .dat p) :: τ) H := by
  obtain ⟨S, h⟩ := h
  exact ⟨S, h.push (.of (q S))⟩
theorem ev_var (h : Γ[i]? = some (some (.dat p)) := by rfl) : EV K Γ (tVar i) (.dat p) := fun g σ τ H Q ⟨S, hA⟩ k => by
  obtain ⟨v, e, o, _⟩ := hA.slot h
  exact ⟨v, e, k v H ⟨S, hA.push o⟩⟩
theorem ev_own {oa : Option Addr} {c : Cell} (h : Γ[i]? = some (some (.own oa c)) := by rfl) : EV K Γ (tVar i) (.als i) := fun g σ τ H Q ⟨S, hA⟩ k => by
  obtain ⟨v, e, o, _⟩ := hA.slot h
  exact ⟨v, e, k v H ⟨S, hA.pushAls e h⟩⟩
theorem ev_int {j : Int} : EV K Γ (tC (.int j)) (.dat (eI j)) := fun g σ τ H Q hA k => k _ H (hA.scal fun _ => rfl)
theorem ev_bl {b : Bool} : EV K Γ (tC (.bl b)) (.dat (eB b)) := fun g σ τ H Q hA k => k _ H (hA.scal fun _ => rfl)
theorem ev_str {s : Str} : EV K Γ (tC (.str s)) (.dat (eS s)) := fun g σ τ H Q hA k => k _ H (hA.scal fun _ => rfl)
theorem ev_non : EV K Γ (tC .non) (.dat eN) := fun g σ τ H Q hA k => k _ H (hA.scal fun _ => rfl)
theorem ev_cv {x : V} : EV K Γ (tC x) (.dat (eV x)) := fun g σ τ H Q hA k => k _ H (hA.scal fun _ => rfl)
theorem ev_op (ha : EV K Γ ta t) (hb : EV K Γ tb u) (ho : O2 K Γ r t u z) : EV K Γ (tOp r ta tb) z := fun g σ τ H Q hA k =>
  ha g σ τ H _ hA fun _ H1 h1 => hb g σ _ H1 _ h1 fun _ H2 h2 => ho g σ τ H2 _ _ Q h2 k
theorem ev_un {r : V → Hp → VK → Prop} (ha : EV K Γ ta t) (ho : O1 K Γ r t z) : EV K Γ (tUn r ta) z := fun g σ τ H Q hA k =>
  ha g σ τ H _ hA fun _ H1 h1 => ho g σ τ H1 _ Q h1 k
theorem ev_cb1 {r : List V → Hp → VK → Prop} (ha : EV K Γ ta t) (ho : O1 K Γ (fun x => r [x]) t z) : EV K Γ (tCB r (tCons ta tNil)) z := fun g σ τ H Q hA k =>
  ha g σ τ H _ hA fun _ H1 h1 => ho g σ τ H1 _ Q h1 k
theorem ev_cb2 {r : List V → Hp → VK → Prop} (ha : EV K Γ ta t) (hb : EV K Γ tb u) (ho : O2 K Γ (fun x y => r [x, y]) t u z) : EV K Γ (tCB r (tCons ta (tCons tb tNil))) z := fun g σ τ H Q hA k =>
  ha g σ τ H _ hA fun _ H1 h1 => hb g σ _ H1 _ h1 fun _ H2 h2 => ho g σ τ H2 _ _ Q h2 k
theorem ea_nil : EA K Γ tNil [] := fun g σ τ H Q hA k => k [] H rfl hA
theorem ea_cons {tr : TA} {ts : List Tm} (h : EV K Γ te t) (hr : EA K Γ tr ts) : EA K Γ (tCons te tr) (t :: ts) := fun g σ τ H Q hA k =>
  h g σ τ H _ hA fun v H1 h1 => hr g σ _ H1 _ h1 fun vs H2 hl h2 => k (v :: vs) H2 (by simp [hl]) (by
    rw [List.zip_cons_cons, List.reverse_cons, List.append_assoc]
    exact h2)
/-- the datas on the stack -/
theorem AtS.datas : ∀ {ps : List VP} {vs : List V} {τ : List (V × Tm)}, AtS K g S Γ σ ((vs.zip (ps.map Tm.dat)).reverse ++ τ) H → vs.length = ps.length → Hds K S ps vs ∧ AtS K g S Γ σ τ H
  | [], [], τ, h, _ => ⟨.nil, by simpa using h⟩
  | [], _ :: _, _, _, e => by simp at e
  | _ :: _, [], _, _, e => by simp at e
  | p :: ps, v :: vs, τ, h, e => by
    rw [List.map_cons, List.zip_cons_cons, List.reverse_cons, List.append_assoc] at h
    obtain ⟨h1, h2⟩ := AtS.datas (ps := ps) (vs := vs) (τ := [(v, Tm.dat p)] ++ τ) h (by simpa using e)
    exact ⟨.cons h2.top h1, h2.pop⟩
theorem ev_tup {ta : TA} (ps : List VP) (h : EA K Γ ta (ps.map Tm.dat)) (hz : ps.length ≤ 100 := by exact Nat.le_of_ble_eq_true rfl) : EV K Γ (tTup ta) (.dat (rT ps)) := fun g σ τ H Q hA k =>
  h g σ τ H _ hA fun vs H1 hl ⟨S, h1⟩ => by
    have hl' : vs.length = ps.length := by simpa using hl
    obtain ⟨d, h2⟩ := h1.datas hl'
    refine ⟨Nat.le_trans (Nat.le_of_eq hl') (Nat.le_trans hz (by decide)), fun a ha => k _ _ ⟨_, (h2.lay ha).push (.of ⟨a, vs, rfl, SqT.of upd_same, d.mono fun b o e => ?_⟩)⟩⟩
    have : S a = none := by
      cases e : S a with
      | none => rfl
      | some o => rw [h2.base.sh a o e] at ha; cases ha
    rw [upd_ne (ne_of_none e this)]; exact e
theorem ev_lst {ta : TA} (ps : List VP) (h : EA K Γ ta (ps.map Tm.dat)) (hz : ps.length ≤ 100 := by exact Nat.le_of_ble_eq_true rfl) : EV K Γ (tLst ta) (.own none (.lst ps)) := fun g σ τ H Q hA k =>
  h g σ τ H _ hA fun vs H1 hl ⟨S, h1⟩ => by
    have hl' : vs.length = ps.length := by simpa using hl
    obtain ⟨d, h2⟩ := h1.datas hl'
    exact ⟨Nat.le_trans (Nat.le_of_eq hl') (Nat.le_trans hz (by decide)), fun a ha => k _ _ ⟨_, h2.fresh ha ⟨vs, rfl, d⟩⟩⟩
theorem At.frz {oa : Option Addr} (h : At K g Γ σ ((v, .own oa (.lst ps)) :: τ) H) : At K g Γ σ ((v, .dat (rL ps)) :: τ) H := by
  obtain ⟨S, h⟩ := h
  obtain ⟨a, o, rfl, h4, nS, ⟨vs, rfl, d⟩, h2⟩ := h.freeze
  refine ⟨_, h2.push (.of ⟨a, vs, rfl, SqL.of upd_same, d.mono fun b o e => ?_⟩)⟩
  rw [upd_ne (ne_of_none e nS)]; exact e
theorem ev_frz {oa : Option Addr} (h : EV K Γ te (.own oa (.lst ps))) : EV K Γ te (.dat (rL ps)) := fun g σ τ H Q hA k => h g σ τ H Q hA fun v H' h' => k v H' h'.frz

/-! ### ints, bools, texts -/
theorem At.scal1 {r : V → Hp → VK → Prop} (f : ∀ S v, Hd K p v S → ∀ H (Q : VK), Q x H → r v H Q) (hz : ∀ S, q K x S) : O1 K Γ r (.dat p) (.dat q) := fun g σ τ H v Q ⟨S, h⟩ k =>
  f S v h.top H Q (k _ H ⟨S, h.pop.push (.of (hz S))⟩)
theorem At.scal2 {p2 : VP} (f : ∀ S v w, Hd K p v S → Hd K p2 w S → ∀ H (Q : VK), Q x H → r v w H Q) (hz : ∀ S, q K x S) : O2 K Γ r (.dat p) (.dat p2) (.dat q) := fun g σ τ H v w Q ⟨S, h⟩ k =>
  f S v w h.pop.top h.top H Q (k _ H ⟨S, h.pop.pop.push (.of (hz S))⟩)
theorem o2_i0 {f : Int → Int → Int} {a b : Int} : O2 K Γ (rI0 fun i j => .int (f i j)) (.dat (eI a)) (.dat (eI b)) (.dat (eI (f a b))) :=
  At.scal2 (fun S v w h1 h2 H Q k => ⟨a, b, h1.i, h2.i, k⟩) fun _ => rfl
theorem o2_i {C : Int → Int → Prop} {f : Int → Int → Int} {a b : Int} (hc : C a b) : O2 K Γ (rI C fun i j => .int (f i j)) (.dat (eI a)) (.dat (eI b)) (.dat (eI (f a b))) :=
  At.scal2 (fun S v w h1 h2 H Q k => ⟨a, b, h1.i, h2.i, hc, k⟩) fun _ => rfl
theorem o2_c0 {f : Int → Int → Bool} {a b : Int} : O2 K Γ (rI0 fun i j => .bl (f i j)) (.dat (eI a)) (.dat (eI b)) (.dat (eB (f a b))) :=
  At.scal2 (fun S v w h1 h2 H Q k => ⟨a, b, h1.i, h2.i, k⟩) fun _ => rfl
theorem dec_inj {α : Type} [DecidableEq α] {f : α → V} (hf : ∀ a b, f a = f b → a = b) (a b : α) : decide (f a = f b) = decide (a = b) := by
  by_cases h : a = b
  · subst h; simp
  · rw [decide_eq_false h, decide_eq_false fun e => h (hf _ _ e)]
theorem o2_eqI {a b : Int} : O2 K Γ rEq (.dat (eI a)) (.dat (eI b)) (.dat (eB (decide (a = b)))) :=
  At.scal2 (fun S v w h1 h2 H Q k => by
    rw [h1.i, h2.i]
    exact ⟨rfl, by rw [dec_inj (f := V.int) (fun _ _ e => V.int.inj e)]; exact k⟩) fun _ => rfl
theorem o2_neI {a b : Int} : O2 K Γ rNe (.dat (eI a)) (.dat (eI b)) (.dat (eB (!decide (a = b)))) :=
  At.scal2 (fun S v w h1 h2 H Q k => by
    rw [h1.i, h2.i]
    exact ⟨rfl, by rw [dec_inj (f := V.int) (fun _ _ e => V.int.inj e)]; exact k⟩) fun _ => rfl
theorem o2_eqS {a b : Str} : O2 K Γ rEq (.dat (eS a)) (.dat (eS b)) (.dat (eB (decide (a = b)))) :=
  At.scal2 (fun S v w h1 h2 H Q k => by
    rw [h1.s, h2.s]
    exact ⟨rfl, by rw [dec_inj (f := V.str) (fun _ _ e => V.str.inj e)]; exact k⟩) fun _ => rfl
theorem o2_neS {a b : Str} : O2 K Γ rNe (.dat (eS a)) (.dat (eS b)) (.dat (eB (!decide (a = b)))) :=
  At.scal2 (fun S v w h1 h2 H Q k => by
    rw [h1.s, h2.s]
    exact ⟨rfl, by rw [dec_inj (f := V.str) (fun _ _ e => V.str.inj e)]; exact k⟩) fun _ => rfl
theorem o2_eqB {a b : Bool} : O2 K Γ rEq (.dat (eB a)) (.dat (eB b)) (.dat (eB (decide (a = b)))) :=
  At.scal2 (fun S v w h1 h2 H Q k => by
    rw [h1.b, h2.b]
    exact ⟨rfl, by rw [dec_inj (f := V.bl) (fun _ _ e => V.bl.inj e)]; exact k⟩) fun _ => rfl
theorem o2_neB {a b : Bool} : O2 K Γ rNe (.dat (eB a)) (.dat (eB b)) (.dat (eB (!decide (a = b)))) :=
  At.scal2 (fun S v w h1 h2 H Q k => by
    rw [h1.b, h2.b]
    exact ⟨rfl, by rw [dec_inj (f := V.bl) (fun _ _ e => V.bl.inj e)]; exact k⟩) fun _ => rfl
theorem o1_neg {a : Int} : O1 K Γ (rU fun i => .int (-i)) (.dat (eI a)) (.dat (eI (-a))) := At.scal1 (fun S v h H Q k => ⟨a, h.i, k⟩) fun _ => rfl
/-- partial: a % b, a // b, a * b -/
def modR (a b : Int) : R Int := gd (decide (0 < b)) (a % b)
def divR (a b : Int) : R Int := gd (decide (0 < b) && decide (b < 1073741824)) (a / b)
@[irreducible] def mulR (a b : Int) : R Int := gd ((decide (-(2 ^ 64) < a) && decide (a < 2 ^ 64)) || (decide (-(2 ^ 64) < b) && decide (b < 2 ^ 64))) (a * b)
theorem At.part2 {γ : Type} {c : Bool} {a : γ} {zz : γ → Tm} (h : c = true → O2 K Γ r t u (zz a)) : O2M K Γ r t u (gd c a) zz := fun g σ τ H x y Q E hA hm => by
  obtain ⟨hc, k⟩ := hm.gd
  exact h hc g σ τ H x y Q hA k
theorem At.part1 {γ : Type} {r : V → Hp → VK → Prop} {c : Bool} {a : γ} {zz : γ → Tm} (h : c = true → O1 K Γ r t (zz a)) : O1M K Γ r t (gd c a) zz := fun g σ τ H x Q E hA hm => by
  obtain ⟨hc, k⟩ := hm.gd
  exact h hc g σ τ H x Q hA k
theorem o2_mod {a b : Int} : O2M K Γ (rI (fun _ j => 0 < j) fun i j => .int (i % j)) (.dat (eI a)) (.dat (eI b)) (modR a b) (fun c => .dat (eI c)) := At.part2 fun h => o2_i (of_decide_eq_true h)
theorem o2_div {a b : Int} : O2M K Γ (rI CDiv fun i j => .int (i / j)) (.dat (eI a)) (.dat (eI b)) (divR a b) (fun c => .dat (eI c)) := At.part2 fun h => o2_i (by
  simp only [Bool.and_eq_true, decide_eq_true_eq] at h
  exact h)
theorem o2_mul {a b : Int} : O2M K Γ (rI CMul fun i j => .int (i * j)) (.dat (eI a)) (.dat (eI b)) (mulR a b) (fun c => .dat (eI c)) := by
  unfold mulR
  exact At.part2 fun h => o2_i (by
    simp only [Bool.or_eq_true, Bool.and_eq_true, decide_eq_true_eq] at h
    exact h)
/-- by a written number -/
theorem o2_modK {a b : Int} (h : decide (0 < b) = true := by rfl) : O2 K Γ (rI (fun _ j => 0 < j) fun i j => .int (i % j)) (.dat (eI a)) (.dat (eI b)) (.dat (eI (a % b))) := o2_i (of_decide_eq_true h)
theorem o2_divK {a b : Int} (h : (decide (0 < b) && decide (b < 1073741824)) = true := by rfl) : O2 K Γ (rI CDiv fun i j => .int (i / j)) (.dat (eI a)) (.dat (eI b)) (.dat (eI (a / b))) := o2_i (by
  simp only [Bool.and_eq_true, decide_eq_true_eq] at h
  exact h)
theorem o2_mulK {a b : Int} (h : (decide (-(2 ^ 64) < b) && decide (b < 2 ^ 64)) = true := by decide) : O2 K Γ (rI CMul fun i j => .int (i * j)) (.dat (eI a)) (.dat (eI b)) (.dat (eI (a * b))) := o2_i (by
  simp only [Bool.and_eq_true, decide_eq_true_eq] at h
  exact .inr h)
theorem o2_mulJ {a b : Int} (h : (decide (-(2 ^ 64) < a) && decide (a < 2 ^ 64)) = true := by decide) : O2 K Γ (rI CMul fun i j => .int (i * j)) (.dat (eI a)) (.dat (eI b)) (.dat (eI (a * b))) := o2_i (by
  simp only [Bool.and_eq_true, decide_eq_true_eq] at h
  exact .inl h)
theorem o2_powK {a b : Int} (h : CPow a b := by refine ⟨?_, ?_, ?_⟩ <;> decide) : O2 K Γ (rI CPow fun i j => .int (i ^ j.toNat)) (.dat (eI a)) (.dat (eI b)) (.dat (eI (a ^ b.toNat))) := o2_i h
/-- is None -/
def NN {α : Type} (e : α → VP) : Prop := ∀ K a v S, Hd K (e a) v S → v ≠ .non
theorem nn_i : NN eI := fun K a v S h => by rw [h.i]; intro z; cases z
theorem nn_b : NN eB := fun K a v S h => by rw [h.b]; intro z; cases z
theorem nn_s : NN eS := fun K a v S h => by rw [h.s]; intro z; cases z
theorem nn_t {α : Type} {f : α → List VP} : NN (fun a => rT (f a)) := fun K a v S h => by
  obtain ⟨a, vs, rfl, _⟩ := h.t
  intro z; cases z
theorem nn_l {α : Type} {f : α → List VP} : NN (fun a => rL (f a)) := fun K a v S h => by
  obtain ⟨a, vs, rfl, _⟩ := h.l
  intro z; cases z
theorem eO_dec {α : Type} {e : α → VP} (n : NN e) {o : Option α} {v : V} {S : Hp} (h : Hd K (eO e o) v S) : decide (v = .non) = o.isNone := by
  cases o with
  | none => have e1 : v = .non := Hd.n h; subst e1; rfl
  | some a => exact decide_eq_false (n K a v S h)
def rIsN : R2 := fun x y H Q => y = .non ∧ Q (.bl (decide (x = .non))) H
def rNotN : R2 := fun x y H Q => y = .non ∧ Q (.bl (!decide (x = .non))) H
theorem p_isN {X : Cx} : OpR X (compareOp .Is) rIsN := op_isN
theorem p_notN {X : Cx} : OpR X (compareOp .IsNot) rNotN := op_notN
theorem o2_isN {α : Type} {e : α → VP} {o : Option α} (n : NN e) : O2 K Γ rIsN (.dat (eO e o)) (.dat eN) (.dat (eB o.isNone)) :=
  At.scal2 (fun S v w h1 h2 H Q k => ⟨h2.n, by rw [eO_dec n h1]; exact k⟩) fun _ => rfl
theorem o2_notN {α : Type} {e : α → VP} {o : Option α} (n : NN e) : O2 K Γ rNotN (.dat (eO e o)) (.dat eN) (.dat (eB (!o.isNone))) :=
  At.scal2 (fun S v w h1 h2 H Q k => ⟨h2.n, by rw [eO_dec n h1]; exact k⟩) fun _ => rfl

/-! ### tests -/
variable {tA tB' : TT} {a b c : Bool}
theorem evb_test (h : EV K Γ te (.dat (eB b))) : EVB K Γ (tTest te) b := fun g σ τ H Q hA k => h g σ τ H _ hA fun v H' ⟨S, h'⟩ => ⟨b, h'.top.b, k H' ⟨S, h'.pop⟩⟩
theorem evb_B (h : EV K Γ te (.dat (eB b))) : EVB K Γ (tB te) b := fun g σ τ H Q hA k => h g σ τ H _ hA fun v H' ⟨S, h'⟩ => ⟨b, h'.top.b, k H' ⟨S, h'.pop⟩⟩
theorem evb_and (h1 : EVB K Γ tA a) (h2 : EVB K Γ tB' b) : EVB K Γ (tAnd tA tB') (a && b) := fun g σ τ H Q hA k => h1 g σ τ H _ hA fun H1 hA1 => by
  cases a with
  | true => exact h2 g σ τ H1 Q hA1 k
  | false => exact k H1 hA1
theorem evb_or (h1 : EVB K Γ tA a) (h2 : EVB K Γ tB' b) : EVB K Γ (tOr tA tB') (a || b) := fun g σ τ H Q hA k => h1 g σ τ H _ hA fun H1 hA1 => by
  cases a with
  | false => exact h2 g σ τ H1 Q hA1 k
  | true => exact k H1 hA1
theorem evb_not (h1 : EVB K Γ tA a) : EVB K Γ (tNot tA) (!a) := fun g σ τ H Q hA k => h1 g σ τ H _ hA fun H1 hA1 => k H1 hA1
theorem ev_andV (h1 : EV K Γ ta (.dat (eB a))) (h2 : EV K Γ tb (.dat (eB b))) : EV K Γ (tAndV ta tb) (.dat (eB (a && b))) := fun g σ τ H Q hA k => h1 g σ τ H _ hA fun v H1 ⟨S, h⟩ => ⟨a, h.top.b, by
  have hA1 : At K g Γ σ τ H1 := ⟨S, h.pop⟩
  cases a with
  | true => exact h2 g σ τ H1 Q hA1 k
  | false => exact k _ H1 (hA1.scal fun _ => rfl)⟩
theorem ev_orV (h1 : EV K Γ ta (.dat (eB a))) (h2 : EV K Γ tb (.dat (eB b))) : EV K Γ (tOrV ta tb) (.dat (eB (a || b))) := fun g σ τ H Q hA k => h1 g σ τ H _ hA fun v H1 ⟨S, h⟩ => ⟨a, h.top.b, by
  have hA1 : At K g Γ σ τ H1 := ⟨S, h.pop⟩
  cases a with
  | false => exact h2 g σ τ H1 Q hA1 k
  | true => exact k _ H1 (hA1.scal fun _ => rfl)⟩
theorem ev_notV (h1 : EV K Γ ta (.dat (eB a))) : EV K Γ (tNotV ta) (.dat (eB (!a))) := fun g σ τ H Q hA k => h1 g σ τ H _ hA fun v H1 ⟨S, h⟩ => ⟨a, h.top.b, k _ H1 (At.scal ⟨S, h.pop⟩ fun _ => rfl)⟩
theorem ev_if {α : Type} {e : α → Tm} {x y : α} (hc : EVB K Γ tA c) (h1 : EV K Γ ta (e x)) (h2 : EV K Γ tb (e y)) : EV K Γ (tIf tA ta tb) (e (if c then x else y)) := fun g σ τ H Q hA k => hc g σ τ H _ hA fun H1 hA1 => by
  cases c with
  | true => exact h1 g σ τ H1 Q hA1 k
  | false => exact h2 g σ τ H1 Q hA1 k
/-- a < b < c on ints (b asked once) -/
theorem ev_chain {i j k : Int} {f f' : Int → Int → Bool} (h1 : EV K Γ ta (.dat (eI i))) (h2 : EV K Γ tb (.dat (eI j))) (h3 : EV K Γ tc (.dat (eI k))) :
    EV K Γ (tChain (rI0 fun i j => .bl (f i j)) (rI0 fun i j => .bl (f' i j)) ta tb tc) (.dat (eB (f i j && f' j k))) := fun g σ τ H Q hA kk =>
  h1 g σ τ H _ hA fun x H1 hA1 => h2 g σ _ H1 _ hA1 fun y H2 ⟨S, hA2⟩ => by
    refine ⟨i, j, hA2.pop.top.i, hA2.top.i, f i j, rfl, ?_⟩
    cases e : f i j with
    | true =>
      show tc σ H2 _
      refine h3 g σ _ H2 _ ⟨S, hA2⟩ fun z H3 ⟨S3, hA3⟩ => ⟨j, k, hA3.pop.top.i, hA3.top.i, ?_⟩
      refine kk _ H3 ⟨S3, hA3.pop.pop.pop.push (.of ?_)⟩
      show V.bl _ = V.bl _
      rw [e, Bool.true_and]
    | false =>
      show Q (.bl false) H2
      exact kk _ H2 ⟨S, hA2.pop.pop.push (.of (by show V.bl _ = V.bl _; rw [e, Bool.false_and]))⟩
end
end Gv

set_option Elab.async false
set_option linter.all false
set_option maxRecDepth 100000
set_option maxHeartbeats 1000000
/-! Gv: lists, tuples, calls, statements -/
namespace Gv
open PySem L2

/-! ### what stands on the stack is a list, a tuple -/
inductive IsL (G : List (Option Tm)) : Tm → List VP → Prop
  | dat {ps : List VP} : IsL G (.dat (rL ps)) ps
  | als {i : Nat} {oa : Option Addr} {ps : List VP} (h : G[i]? = some (some (.own oa (.lst ps)))) : IsL G (.als i) ps
  | own {oa : Option Addr} {ps : List VP} : IsL G (.own oa (.lst ps)) ps
inductive IsQ (G : List (Option Tm)) : Tm → List VP → Prop
  | l {t : Tm} {ps : List VP} (h : IsL G t ps) : IsQ G t ps
  | t {ps : List VP} : IsQ G (.dat (rT ps)) ps

section
variable {K : PySem.W.Frag} {Γ : List (Option Tm)} {g : Gh} {S H : Hp} {σ : St} {τ : List (V × Tm)} {v x y : V} {t u z w : Tm} {p q : VP} {ps qs : List VP} {i : Nat} {ta tb tc te : TE} {r r' : R2} {α : Type} {e : α → VP}

theorem AtS.isL (h : AtS K g S Γ σ τ H) (hm : (v, t) ∈ τ) (hl : IsL Γ t ps) : ∃ a vs, v = .ref a ∧ SqL K H a vs ∧ Hds K S ps vs := by
  have q := h.all _ (List.mem_append_right _ hm)
  cases hl with
  | dat =>
    obtain ⟨a, vs, h1, h2, h3⟩ := Hd.l q
    exact ⟨a, vs, h1, h.base.sh.seq h2, h3⟩
  | als hg =>
    obtain ⟨w, e, o, _⟩ := h.slot hg
    have q' : σ[_]? = some (some v) := q
    rw [e] at q'
    cases q'
    obtain ⟨a, o, h1, _, _, _, h4, vs, rfl, d⟩ := o
    exact ⟨a, vs, h1, SqL.of h4, d⟩
  | own =>
    obtain ⟨a, o, h1, _, _, _, h4, vs, rfl, d⟩ := q
    exact ⟨a, vs, h1, SqL.of h4, d⟩
theorem AtS.isT (h : AtS K g S Γ σ τ H) (hm : (v, .dat (rT ps)) ∈ τ) : ∃ a vs, v = .ref a ∧ SqT K H a vs ∧ Hds K S ps vs := by
  obtain ⟨a, vs, h1, h2, h3⟩ := Hd.t (h.all _ (List.mem_append_right _ hm))
  exact ⟨a, vs, h1, same_t h.base.sh h2, h3⟩
theorem AtS.isQ (h : AtS K g S Γ σ τ H) (hm : (v, t) ∈ τ) (hl : IsQ Γ t ps) : ∃ a vs, v = .ref a ∧ (SqL K H a vs ∨ SqT K H a vs) ∧ Hds K S ps vs := by
  cases hl with
  | l hl =>
    obtain ⟨a, vs, h1, h2, h3⟩ := h.isL hm hl
    exact ⟨a, vs, h1, .inl h2, h3⟩
  | t =>
    obtain ⟨a, vs, h1, h2, h3⟩ := h.isT hm
    exact ⟨a, vs, h1, .inr h2, h3⟩

/-! ### len, list(..), tuple(..) -/
def rLen (K : PySem.W.Frag) : List V → Hp → VK → Prop := fun xs H Q => ∃ p ys, xs = [V.ref p] ∧ (SqL K H p ys ∨ SqT K H p ys) ∧ Q (.int ys.length) H
def rList (K : PySem.W.Frag) : List V → Hp → VK → Prop := fun xs H Q => ∃ p ys, xs = [V.ref p] ∧ (SqL K H p ys ∨ SqT K H p ys) ∧ ∀ l, H l = none → Q (.ref l) (upd H l (.lst ys))
def rTuple (K : PySem.W.Frag) : List V → Hp → VK → Prop := fun xs H Q => ∃ p ys, xs = [V.ref p] ∧ ((SqL K H p ys ∧ ∀ l, H l = none → Q (.ref l) (upd H l (.tup ys))) ∨ (SqT K H p ys ∧ Q (.ref p) H))
def rInt1 : List V → Hp → VK → Prop := fun xs H Q => (∃ i, xs = [V.int i] ∧ Q (.int i) H) ∨ ∃ k, xs = [V.bl k] ∧ Q (.int (if k then 1 else 0)) H
def rStr1 : List V → Hp → VK → Prop := fun xs H Q => ∃ i : Int, xs = [V.int i] ∧ i.natAbs.log2 < 1920 ∧ Q (.str (toString i)) H
def rMax2 : List V → Hp → VK → Prop := fun xs H Q => ∃ i j, xs = [V.int i, V.int j] ∧ Q (.int (if j > i then j else i)) H
def rMin2 : List V → Hp → VK → Prop := fun xs H Q => ∃ i j, xs = [V.int i, V.int j] ∧ Q (.int (if j < i then j else i)) H
def rAbs : List V → Hp → VK → Prop := fun xs H Q => ∃ i, xs = [V.int i] ∧ Q (.int (if i < 0 then -i else i)) H
section
variable {X : Cx}
theorem c_len : CallR X (.builtin "len") (rLen X.K) := call_len_seq
theorem c_list : CallR X (.type "list") (rList X.K) := call_list_of
theorem c_tuple : CallR X (.type "tuple") (rTuple X.K) := call_tuple_of
theorem c_int : CallR X (.type "int") rInt1 := call_int1
theorem c_str : CallR X (.type "str") rStr1 := call_str_int
theorem c_max2 (hc : X.calm = true := by rfl) : CallR X (.builtin "max") rMax2 := call_max2 hc
theorem c_min2 (hc : X.calm = true := by rfl) : CallR X (.builtin "min") rMin2 := call_min2 hc
theorem c_abs : CallR X (.builtin "abs") rAbs := call_abs
end
theorem o1_int {i : Int} : O1 K Γ (fun x => rInt1 [x]) (.dat (eI i)) (.dat (eI i)) := At.scal1 (fun S v h H Q k => .inl ⟨i, by rw [h.i], k⟩) fun _ => rfl
theorem o1_intB {b : Bool} : O1 K Γ (fun x => rInt1 [x]) (.dat (eB b)) (.dat (eI (if b then 1 else 0))) := At.scal1 (fun S v h H Q k => .inr ⟨b, by rw [h.b], k⟩) fun _ => rfl
theorem o1_abs {i : Int} : O1 K Γ (fun x => rAbs [x]) (.dat (eI i)) (.dat (eI (if i < 0 then -i else i))) := At.scal1 (fun S v h H Q k => ⟨i, by rw [h.i], k⟩) fun _ => rfl
def strI (i : Int) : Str := toString i
def strR (i : Int) : R Str := gd (decide (i.natAbs.log2 < 1920)) (strI i)
theorem o1_str {i : Int} : O1M K Γ (fun x => rStr1 [x]) (.dat (eI i)) (strR i) (fun s => .dat (eS s)) := At.part1 fun hc => At.scal1 (fun S v h H Q k => ⟨i, by rw [h.i], of_decide_eq_true hc, k⟩) fun _ => rfl
def maxI (i j : Int) : Int := if j > i then j else i
def minI (i j : Int) : Int := if j < i then j else i
theorem o2_max {i j : Int} : O2 K Γ (fun x y => rMax2 [x, y]) (.dat (eI i)) (.dat (eI j)) (.dat (eI (maxI i j))) := At.scal2 (fun S v w h1 h2 H Q k => ⟨i, j, by rw [h1.i, h2.i], k⟩) fun _ => rfl
theorem o2_min {i j : Int} : O2 K Γ (fun x y => rMin2 [x, y]) (.dat (eI i)) (.dat (eI j)) (.dat (eI (minI i j))) := At.scal2 (fun S v w h1 h2 H Q k => ⟨i, j, by rw [h1.i, h2.i], k⟩) fun _ => rfl
theorem o1_len (hl : IsQ Γ t ps) : O1 K Γ (fun x => rLen K [x]) t (.dat (eI (ps.length : Int))) := fun g σ τ H x Q ⟨S, h⟩ k => by
  obtain ⟨a, vs, rfl, h2, h3⟩ := h.isQ List.mem_cons_self hl
  refine ⟨a, vs, rfl, h2, k _ H ⟨S, h.pop.push (.of ?_)⟩⟩
  show V.int _ = V.int _
  rw [h3.len]
theorem o1_lenT (xs : List α) (e : α → VP) (hl : IsQ Γ t (xs.map e)) : O1 K Γ (fun x => rLen K [x]) t (.dat (eI (xs.length : Int))) := by
  have := o1_len (K := K) hl
  rw [List.length_map] at this
  exact this
theorem o1_list (hl : IsQ Γ t ps) : O1 K Γ (fun x => rList K [x]) t (.own none (.lst ps)) := fun g σ τ H x Q ⟨S, h⟩ k => by
  obtain ⟨a, vs, rfl, h2, h3⟩ := h.isQ List.mem_cons_self hl
  exact ⟨a, vs, rfl, h2, fun l hn => k _ _ ⟨S, h.pop.fresh hn ⟨vs, rfl, h3⟩⟩⟩
theorem nS_of (h : AtS K g S Γ σ τ H) {a : Addr} (n : H a = none) : S a = none := by
  cases e : S a with
  | none => rfl
  | some u => rw [h.base.sh a u e] at n; cases n
/-- a new tuple of what is held -/
theorem AtS.newT {a : Addr} {vs : List V} (h : AtS K g S Γ σ τ H) (n : H a = none) (d : Hds K S ps vs) : At K g Γ σ ((.ref a, .dat (rT ps)) :: τ) (upd H a (.tup vs)) :=
  ⟨_, (h.lay n).push (.of ⟨a, vs, rfl, SqT.of upd_same, d.mono fun b o e => by rw [upd_ne (ne_of_none e (nS_of h n))]; exact e⟩)⟩
theorem o1_tuple (hl : IsQ Γ t ps) : O1 K Γ (fun x => rTuple K [x]) t (.dat (rT ps)) := fun g σ τ H x Q ⟨S, h⟩ k => by
  cases hl with
  | l hl =>
    obtain ⟨a, vs, rfl, h2, h3⟩ := h.isL List.mem_cons_self hl
    exact ⟨a, vs, rfl, .inl ⟨h2, fun l hn => k _ _ (h.pop.newT hn h3)⟩⟩
  | t =>
    have q := h.top
    obtain ⟨a, vs, rfl, h2, h3⟩ := h.isT List.mem_cons_self
    exact ⟨a, vs, rfl, .inr ⟨h2, k _ H ⟨S, h.pop.push q⟩⟩⟩

/-! ### an item -/
def idx {α : Type} (xs : List α) (i : Int) : R α := match atI xs i with
  | some a => .nx a
  | none => .stuck
theorem atI_hds {vs : List V} {j : Int} {p : VP} (d : Hds K S ps vs) (h : atI ps j = some p) : ∃ v, atI vs j = some v ∧ Hd K p v S := by
  unfold atI at h ⊢
  rw [d.len]
  cases e : ixN ps.length j with
  | none => rw [e] at h; cases h
  | some m =>
    rw [e] at h
    have h' : ps[m]? = some p := h
    obtain ⟨v, h1, h2⟩ := d.get h'
    exact ⟨v, h1, h2⟩
theorem atI_map {xs : List α} {j : Int} {a : α} (h : atI xs j = some a) : atI (xs.map e) j = some (e a) := by
  unfold atI at h ⊢
  rw [List.length_map]
  cases e1 : ixN xs.length j with
  | none => rw [e1] at h; cases h
  | some m =>
    rw [e1] at h
    have h' : xs[m]? = some a := h
    show (xs.map e)[m]? = some (e a)
    rw [List.getElem?_map, h']
    rfl
theorem o2_idxL {xs : List α} {j : Int} (hl : IsL Γ t (xs.map e)) : O2M K Γ (rIxL K) t (.dat (eI j)) (idx xs j) (fun a => .dat (e a)) := fun g σ τ H x y Q E ⟨S, h⟩ hm => by
  unfold idx at hm
  cases e1 : atI xs j with
  | none => rw [e1] at hm; exact hm.elim
  | some a =>
    rw [e1] at hm
    obtain ⟨b, vs, rfl, h2, h3⟩ := h.isL (List.mem_cons_of_mem _ List.mem_cons_self) hl
    obtain ⟨w, h4, h5⟩ := atI_hds h3 (atI_map e1)
    exact ⟨b, vs, j, w, rfl, h.top.i, h2, h4, hm _ H ⟨S, h.pop.pop.push h5⟩⟩
theorem o2_idxT {xs : List α} {j : Int} : O2M K Γ (rIxT K) (.dat (eT e xs)) (.dat (eI j)) (idx xs j) (fun a => .dat (e a)) := fun g σ τ H x y Q E ⟨S, h⟩ hm => by
  unfold idx at hm
  cases e1 : atI xs j with
  | none => rw [e1] at hm; exact hm.elim
  | some a =>
    rw [e1] at hm
    obtain ⟨b, vs, rfl, h2, h3⟩ := h.isT (List.mem_cons_of_mem _ List.mem_cons_self)
    obtain ⟨w, h4, h5⟩ := atI_hds h3 (atI_map e1)
    exact ⟨b, vs, j, w, rfl, h.top.i, h2, h4, hm _ H ⟨S, h.pop.pop.push h5⟩⟩
/-- a written place of a tuple whose places are told -/
theorem o2_ixK {j : Int} (h : atI ps j = some p := by rfl) : O2 K Γ (rIxT K) (.dat (rT ps)) (.dat (eI j)) (.dat p) := fun g σ τ H x y Q ⟨S, hA⟩ k => by
  obtain ⟨b, vs, rfl, h2, h3⟩ := hA.isT (List.mem_cons_of_mem _ List.mem_cons_self)
  obtain ⟨w, h4, h5⟩ := atI_hds h3 h
  exact ⟨b, vs, j, w, rfl, hA.top.i, h2, h4, k _ H ⟨S, hA.pop.pop.push h5⟩⟩

/-! ### slices -/
def cutL {α : Type} (xs : List α) (lo hi : Option Int) : List α := (xs.drop (HT.sIx xs.length 0 lo)).take (HT.sIx xs.length xs.length hi - HT.sIx xs.length 0 lo)
theorem cutL_map (xs : List α) (lo hi : Option Int) : (cutL xs lo hi).map e = cutL (xs.map e) lo hi := by
  unfold cutL
  rw [List.map_take, List.map_drop, List.length_map]
theorem cut_hds {vs : List V} (d : Hds K S ps vs) (lo hi : Option Int) : Hds K S (cutL ps lo hi) (cutV vs lo hi) := by
  unfold cutL cutV
  rw [d.len]
  exact (d.drop _).take _
/-- a bound of a slice -/
def EVO (K : PySem.W.Frag) (Γ : List (Option Tm)) (to : TO) (o : Option Int) : Prop := ∀ g σ τ H (Q : Option Int → Hp → Prop), At K g Γ σ τ H → (∀ H', At K g Γ σ τ H' → Q o H') → to σ H Q
theorem evo_none : EVO K Γ tNoPart none := fun g σ τ H Q hA k => k H hA
theorem evo_some {j : Int} (h : EV K Γ te (.dat (eI j))) : EVO K Γ (tPart te) (some j) := fun g σ τ H Q hA k => h g σ τ H _ hA fun v H' ⟨S, h'⟩ => ⟨j, h'.top.i, k H' ⟨S, h'.pop⟩⟩
def O1S (K : PySem.W.Frag) (Γ : List (Option Tm)) (r : V → Option Int → Option Int → Hp → VK → Prop) (t : Tm) (lo hi : Option Int) (z : Tm) : Prop := ∀ g σ τ H x (Q : VK), At K g Γ σ ((x, t) :: τ) H → (∀ v H', At K g Γ σ ((v, z) :: τ) H' → Q v H') → r x lo hi H Q
theorem ev_slice {r : V → Option Int → Option Int → Hp → VK → Prop} {tl th : TO} {lo hi : Option Int} (h : EV K Γ te t) (hl : EVO K Γ tl lo) (hh : EVO K Γ th hi) (ho : O1S K Γ r t lo hi z) : EV K Γ (tSl r te tl th) z := fun g σ τ H Q hA k =>
  h g σ τ H _ hA fun x H1 h1 => hl g σ _ H1 _ h1 fun H2 h2 => hh g σ _ H2 _ h2 fun H3 h3 => ho g σ τ H3 x Q h3 k
theorem o1_cutL {lo hi : Option Int} (hl : IsL Γ t ps) : O1S K Γ (rSlL K) t lo hi (.own none (.lst (cutL ps lo hi))) := fun g σ τ H x Q ⟨S, h⟩ k => by
  obtain ⟨a, vs, rfl, h2, h3⟩ := h.isL List.mem_cons_self hl
  exact ⟨a, vs, rfl, h2, fun p hn => k _ _ ⟨S, h.pop.fresh hn ⟨_, rfl, cut_hds h3 lo hi⟩⟩⟩
theorem o1_cutLT {xs : List α} {lo hi : Option Int} (hl : IsL Γ t (xs.map e)) : O1S K Γ (rSlL K) t lo hi (.own none (.lst ((cutL xs lo hi).map e))) := by
  rw [cutL_map]
  exact o1_cutL hl
theorem whole_cut {vs : List V} {lo hi : Option Int} (h : HT.sIx vs.length 0 lo = 0 ∧ HT.sIx vs.length vs.length hi = vs.length) : cutV vs lo hi = vs := by
  unfold cutV
  rw [h.1, h.2, List.drop_zero, Nat.sub_zero, List.take_length]
theorem o1_cutT {lo hi : Option Int} : O1S K Γ (rSlA K) (.dat (rT ps)) lo hi (.dat (rT (cutL ps lo hi))) := fun g σ τ H x Q ⟨S, h⟩ k => by
  obtain ⟨a, vs, rfl, h2, h3⟩ := Hd.t h.top
  have d := cut_hds h3 lo hi
  refine ⟨a, vs, rfl, same_t h.base.sh h2, fun hw => k _ H ⟨S, h.pop.push (.of ⟨a, vs, rfl, h2, by rw [whole_cut hw] at d; exact d⟩)⟩, fun _ p hn => k _ _ (h.pop.newT hn d)⟩
theorem o1_cutTT {xs : List α} {lo hi : Option Int} : O1S K Γ (rSlA K) (.dat (eT e xs)) lo hi (.dat (eT e (cutL xs lo hi))) := by
  unfold eT
  rw [cutL_map]
  exact o1_cutT

/-! ### + of tuples, of own lists -/
def catR {α : Type} (xs ys : List α) : R (List α) := gd (decide (xs.length + ys.length ≤ 1000000)) (xs ++ ys)
theorem le_line {n : Nat} (h : n ≤ 1000000) : n ≤ sizeLine := by rw [sizeLine_eq]; omega
theorem lt_line {n : Nat} (h : n < 1000000) : n < sizeLine := by rw [sizeLine_eq]; omega
theorem o2_catP (hz : ps.length + qs.length ≤ 1000000) : O2 K Γ (rCatA K) (.dat (rT ps)) (.dat (rT qs)) (.dat (rT (ps ++ qs))) := fun g σ τ H x y Q ⟨S, h⟩ k => by
  obtain ⟨a, vs, rfl, h2, h3⟩ := Hd.t h.pop.top
  obtain ⟨b, ws, rfl, k2, k3⟩ := Hd.t h.top
  have d := h3.append k3
  have hz' : vs.length + ws.length ≤ sizeLine := by rw [h3.len, k3.len]; exact le_line hz
  refine ⟨a, b, vs, ws, rfl, rfl, same_t h.base.sh h2, same_t h.base.sh k2, hz', fun e => ?_, fun _ e => ?_, fun _ _ p hn => k _ _ (h.pop.pop.newT hn d)⟩
  · refine k _ H ⟨S, h.pop.pop.push (.of ⟨b, ws, rfl, k2, ?_⟩)⟩
    rw [e] at d; exact d
  · refine k _ H ⟨S, h.pop.pop.push (.of ⟨a, vs, rfl, h2, ?_⟩)⟩
    rw [e, List.append_nil] at d; exact d
theorem o2_catT {xs ys : List α} : O2M K Γ (rCatA K) (.dat (eT e xs)) (.dat (eT e ys)) (catR xs ys) (fun c => .dat (eT e c)) := At.part2 fun h => by
  have := o2_catP (K := K) (Γ := Γ) (ps := xs.map e) (qs := ys.map e) (by rw [List.length_map, List.length_map]; exact of_decide_eq_true h)
  rw [← List.map_append] at this
  exact this
/-- an own list, or an alias of one -/
inductive IsO (G : List (Option Tm)) : Tm → List VP → Prop
  | als {i : Nat} {oa : Option Addr} {ps : List VP} (h : G[i]? = some (some (.own oa (.lst ps)))) : IsO G (.als i) ps
  | own {oa : Option Addr} {ps : List VP} : IsO G (.own oa (.lst ps)) ps
theorem AtS.isO (h : AtS K g S Γ σ τ H) (hm : (v, t) ∈ τ) (hl : IsO Γ t ps) : ∃ a vs, v = .ref a ∧ H a = some (.lst vs) ∧ Hds K S ps vs := by
  have q := h.all _ (List.mem_append_right _ hm)
  cases hl with
  | als hg =>
    obtain ⟨w, e, o, _⟩ := h.slot hg
    have q' : σ[_]? = some (some v) := q
    rw [e] at q'
    cases q'
    obtain ⟨a, o, h1, _, _, _, h4, vs, rfl, d⟩ := o
    exact ⟨a, vs, h1, h4, d⟩
  | own =>
    obtain ⟨a, o, h1, _, _, _, h4, vs, rfl, d⟩ := q
    exact ⟨a, vs, h1, h4, d⟩
theorem o2_catL {xs ys : List α} (h1 : IsO Γ t (xs.map e)) (h2 : IsO Γ u (ys.map e)) : O2M K Γ rCat t u (catR xs ys) (fun c => .own none (.lst (c.map e))) := At.part2 fun hz => fun g σ τ H x y Q ⟨S, h⟩ k => by
  obtain ⟨a, vs, rfl, a2, a3⟩ := h.isO (List.mem_cons_of_mem _ List.mem_cons_self) h1
  obtain ⟨b, ws, rfl, b2, b3⟩ := h.isO List.mem_cons_self h2
  have hz' : xs.length + ys.length ≤ 1000000 := of_decide_eq_true hz
  refine ⟨a, b, vs, ws, rfl, rfl, a2, b2, ?_, fun p hn => k _ _ ⟨S, h.pop.pop.fresh hn ⟨_, rfl, ?_⟩⟩⟩
  · rw [a3.len, b3.len, List.length_map, List.length_map]; exact le_line hz'
  · rw [List.map_append]; exact a3.append b3
end

/-! ### stepping into a reading -/
section
variable {σ : St} {H : Hp} {Q : VK} {ta tb te : TE} {t : TA} {r : R2}
theorem x_op (h : ta σ H fun x H1 => tb σ H1 fun y H2 => r x y H2 Q) : tOp r ta tb σ H Q := h
theorem x_un {r : V → Hp → VK → Prop} (h : ta σ H fun x H1 => r x H1 Q) : tUn r ta σ H Q := h
theorem x_cb1 {r : List V → Hp → VK → Prop} (h : ta σ H fun x H1 => r [x] H1 Q) : tCB r (tCons ta tNil) σ H Q := h
theorem x_cb2 {r : List V → Hp → VK → Prop} (h : ta σ H fun x H1 => tb σ H1 fun y H2 => r [x, y] H2 Q) : tCB r (tCons ta (tCons tb tNil)) σ H Q := h
theorem x_if {tc : TT} (h : tc σ H fun c H1 => if c = true then ta σ H1 Q else tb σ H1 Q) : tIf tc ta tb σ H Q := h
theorem x_bm1 {K : PySem.W.Frag} {T : String} {r : V → List V → Hp → VK → Prop} (h : ta σ H fun x H1 => tyV K T x H1 ∧ tb σ H1 fun y H2 => r x [y] H2 Q) : tBM K T r ta (tCons tb tNil) σ H Q := h
theorem x_bm0 {K : PySem.W.Frag} {T : String} {r : V → List V → Hp → VK → Prop} (h : ta σ H fun x H1 => tyV K T x H1 ∧ r x [] H1 Q) : tBM0 K T r ta σ H Q := h
theorem x_drop {u : TS} {D : Ends} (h : te σ H fun _ H1 => u D σ H1) : tSeq (tDrop te) u D σ H := h
theorem x_asg {u : TS} {D : Ends} {g : TG} (h : te σ H fun x H1 => g x σ H1 (u D)) : tSeq (tAsg te g) u D σ H := h
theorem x_ret {u : TS} {D : Ends} (h : te σ H D.rt) : tSeq (tRet te) u D σ H := h
theorem x_ifS {u w z : TS} {D : Ends} {tc : TT} (h : tc σ H fun b H1 => if b = true then u { D with nx := z D } σ H1 else w { D with nx := z D } σ H1) : tSeq (tIfS tc u w) z D σ H := h
theorem x_test {te : TE} {Q : Bool → Hp → Prop} (h : te σ H fun x H' => ∃ k, x = .bl k ∧ Q k H') : tTest te σ H Q := h
theorem x_B {te : TE} {Q : Bool → Hp → Prop} (h : te σ H fun x H' => ∃ k, x = .bl k ∧ Q k H') : tB te σ H Q := h
end

/-! ### errors, def's promises -/
/-- an exception's own dict -/
def XF (K : PySem.W.Frag) (S : Hp) (x : Er) (d : Option Addr) : Prop :=
  (x.fs = [] ∧ d = none) ∨ ∃ dd fsV, d = some dd ∧ S dd = some (.xd fsV) ∧ Paired (fun (p : Str × PyData) (q : Str × V) => p.1 = q.1 ∧ Hd K (eD p.2) q.2 S) x.fs fsV
def ErP (K : PySem.W.Frag) (EC : Str → Addr) (g : Gh) (Gw : List (Option Tm)) (x : Er) (EW : St → XK) : Prop :=
  ∀ σ' H' S' d, AtS K g S' Gw σ' [] H' → XF K S' x d → EW σ' (.ref (EC x.c)) d H'
def Spec (K : PySem.W.Frag) (EC : Str → Addr) {α ρ : Type} (n : Nat) (pre : α → List Addr → List (Option Tm)) (m : α → R ρ) (post : ρ → List Addr → List (Option Tm)) (ret : ρ → Tm) : Sp := fun vs H Q E =>
  vs.length = n ∧ ∃ (x : α) (as : List Addr) (g : Gh), (pre x as).length = n ∧ At K g (pre x as) (vs.map some) [] H ∧
    OutR (m x) (fun r => ∀ v H' σ', At K g (post r as) σ' [(v, ret r)] H' → Q v H') (fun x => ErP K EC g [] x fun _ => E)

/-- an argument: a datum, or the own cell of slot i -/
inductive AK where
  | d (p : VP)
  | o (i : Nat) (oa : Option Addr) (c : Cell)
def AK.tm : AK → Tm
  | .d p => .dat p
  | .o i _ _ => .als i
def preOf : List AK → List Addr → List (Option Tm)
  | [], _ => []
  | .d p :: A, as => some (.dat p) :: preOf A as
  | .o _ _ c :: A, a :: as => some (.own (some a) c) :: preOf A as
  | .o _ _ c :: A, [] => some (.own none c) :: preOf A []
/-- what the callee leaves of its own arguments, by its places -/
def postOf : List AK → List Cell → List Addr → List (Option Tm)
  | [], _, _ => []
  | .d _ :: A, cs, as => none :: postOf A cs as
  | .o _ _ _ :: A, c :: cs, a :: as => some (.own (some a) c) :: postOf A cs as
  | .o _ _ _ :: A, _, _ => none :: postOf A [] []
/-- the caller's slots behind the call -/
def newG : List AK → List Cell → List (Option Tm) → List (Option Tm)
  | [], _, G => G
  | .d _ :: A, cs, G => newG A cs G
  | .o i oa _ :: A, c :: cs, G => (newG A cs (G.set i none)).set i (some (.own oa c))
  | .o i _ _ :: A, [], G => newG A [] (G.set i none)
def dropG : List AK → List (Option Tm) → List (Option Tm)
  | [], G => G
  | .d _ :: A, G => dropG A G
  | .o i _ _ :: A, G => dropG A (G.set i none)
/-- the own arguments are slots of the caller, no one twice -/
def OkA : List AK → List (Option Tm) → Prop
  | [], _ => True
  | .d _ :: A, G => OkA A G
  | .o i oa c :: A, G => G[i]? = some (some (.own oa c)) ∧ OkA A (G.set i none)
def nOwn : List AK → Nat
  | [] => 0
  | .d _ :: A => nOwn A
  | .o _ _ _ :: A => nOwn A + 1

/-- AtS without the aliases' slots -/
structure At0 (K : PySem.W.Frag) (g : Gh) (S : Hp) (Γ : List (Option Tm)) (σ : St) (τ : List (V × Tm)) (H : Hp) : Prop where
  base : Base g S H
  len : Γ.length ≤ σ.length
  all : ∀ x ∈ pack σ Γ ++ τ, One K g S H σ x
  ns : ∀ x ∈ pack σ Γ, ∀ j, x.2 ≠ .als j
  nd : (addrs (pack σ Γ ++ τ)).Nodup
def ownE : List AK → List Addr → List (V × Tm)
  | [], _ => []
  | .d _ :: A, as => ownE A as
  | .o _ oa c :: A, a :: as => (.ref a, .own oa c) :: ownE A as
  | .o _ _ _ :: A, [] => ownE A []
def ownE' : List AK → List Cell → List Addr → List (V × Tm)
  | [], _, _ => []
  | .d _ :: A, cs, as => ownE' A cs as
  | .o _ oa _ :: A, c :: cs, a :: as => (.ref a, .own oa c) :: ownE' A cs as
  | .o _ _ _ :: A, _, _ => ownE' A [] []

section
variable {K : PySem.W.Frag} {Γ : List (Option Tm)} {g : Gh} {S H : Hp} {σ : St} {τ : List (V × Tm)} {v x y : V} {t u z w : Tm} {p q : VP} {ps qs : List VP} {i : Nat}
theorem AtS.at0 (h : AtS K g S Γ σ τ H) : At0 K g S Γ σ τ H := ⟨h.base, h.len, h.all, h.ns, h.nd⟩
theorem At0.take {oa : Option Addr} {c : Cell} (h : At0 K g S Γ σ τ H) (e : Γ[i]? = some (some (.own oa c))) : ∃ a, σ[i]? = some (some (.ref a)) ∧ OwnAt K g S H (.ref a) oa c ∧ At0 K g S (Γ.set i none) σ ((.ref a, .own oa c) :: τ) H := by
  rcases pack_get e h.len with ⟨v, h1, h2⟩ | b
  · have q := h.all _ (List.mem_append_left _ (h2.mem_iff.mpr List.mem_cons_self))
    obtain ⟨a, o, e1, r⟩ := id q
    have e1' : v = V.ref a := e1
    subst e1'
    have p : (pack σ Γ ++ τ).Perm (pack σ (Γ.set i none) ++ (V.ref a, Tm.own oa c) :: τ) := (h2.append_right τ).trans List.perm_middle.symm
    exact ⟨a, h1, q, h.base, by rw [List.length_set]; exact h.len, fun x hx => h.all x (p.mem_iff.mpr hx), fun x hx => h.ns x ((pack_drop Γ σ i).subset hx), (addrs_perm p).nodup_iff.mp h.nd⟩
  · exact (h.all _ (List.mem_append_left _ b)).elim
theorem At0.put (h : At0 K g S Γ σ ((v, t) :: τ) H) (hi : i < Γ.length) (e : σ[i]? = some (some v)) (ht : ∀ j, t ≠ .als j) (hn : Γ[i]? = some none) : At0 K g S (Γ.set i (some t)) σ τ H := by
  have hs : σ.set i (some v) = σ := by
    apply List.ext_getElem?
    intro j
    by_cases hj : i = j
    · subst hj
      rw [List.getElem?_set_self (List.getElem?_eq_some_iff.mp e).1, e]
    · rw [List.getElem?_set_ne hj]
  have eΓ : Γ.set i none = Γ := by
    apply List.ext_getElem?
    intro j
    by_cases hj : i = j
    · subst hj
      rw [List.getElem?_set_self hi, hn]
    · rw [List.getElem?_set_ne hj]
  have p := pack_set (Γ := Γ) (σ := σ) (i := i) v t hi h.len
  rw [hs, eΓ] at p
  have p2 : (pack σ (Γ.set i (some t)) ++ τ).Perm (pack σ Γ ++ (v, t) :: τ) := (p.append_right τ).trans List.perm_middle.symm
  refine ⟨h.base, by rw [List.length_set]; exact h.len, fun x hx => h.all x (p2.mem_iff.mp hx), fun x hx j => ?_, (addrs_perm p2).nodup_iff.mpr h.nd⟩
  rcases List.mem_cons.mp (p.mem_iff.mp hx) with rfl | hx
  · exact ht j
  · exact h.ns x hx j

/-- what is known of the arguments -/
inductive Args (K : PySem.W.Frag) (g : Gh) (S H : Hp) (σ : St) : List AK → List V → List Addr → Prop
  | nil : Args K g S H σ [] [] []
  | d {p : VP} {v : V} {A : List AK} {vs : List V} {as : List Addr} : Hd K p v S → Args K g S H σ A vs as → Args K g S H σ (.d p :: A) (v :: vs) as
  | o {i : Nat} {oa : Option Addr} {c : Cell} {a : Addr} {A : List AK} {vs : List V} {as : List Addr} : σ[i]? = some (some (.ref a)) → OwnAt K g S H (.ref a) oa c → Args K g S H σ A vs as → Args K g S H σ (.o i oa c :: A) (.ref a :: vs) (a :: as)
theorem AtS.pops : ∀ {l : List (V × Tm)} {τ : List (V × Tm)}, AtS K g S Γ σ (l ++ τ) H → AtS K g S Γ σ τ H
  | [], _, h => h
  | _ :: l, _, h => AtS.pops (l := l) h.pop
/-- the arguments on the stack -/
theorem args_of : ∀ {A : List AK} {vs : List V} {Γ : List (Option Tm)} {τ : List (V × Tm)}, (∀ x ∈ (vs.zip (A.map AK.tm)), One K g S H σ x) → vs.length = A.length → OkA A Γ → At0 K g S Γ σ τ H →
    ∃ as, Args K g S H σ A vs as ∧ At0 K g S (dropG A Γ) σ (ownE A as ++ τ) H
  | [], [], Γ, τ, _, _, _, h0 => ⟨[], .nil, h0⟩
  | [], _ :: _, _, _, _, e, _, _ => by simp at e
  | _ :: _, [], _, _, _, e, _, _ => by simp at e
  | .d p :: A, v :: vs, Γ, τ, h, e, ok, h0 => by
    obtain ⟨as, h1, h2⟩ := args_of (A := A) (vs := vs) (Γ := Γ) (τ := τ) (fun x hx => h x (by simp [hx])) (by simpa using e) ok h0
    exact ⟨as, .d (h (v, .dat p) (by simp [AK.tm])) h1, h2⟩
  | .o i oa c :: A, v :: vs, Γ, τ, h, e, ok, h0 => by
    obtain ⟨a, e1, ow, h3⟩ := h0.take ok.1
    have q : σ[i]? = some (some v) := h (v, .als i) (by simp [AK.tm])
    rw [e1] at q
    obtain rfl : V.ref a = v := by simpa using q
    obtain ⟨as, h1, h2⟩ := args_of (A := A) (vs := vs) (Γ := Γ.set i none) (τ := (.ref a, .own oa c) :: τ) (fun x hx => h x (by simp [hx])) (by simpa using e) ok.2 h3
    refine ⟨a :: as, .o e1 ow h1, ?_⟩
    have pm : (pack σ (dropG A (Γ.set i none)) ++ (ownE A as ++ (V.ref a, Tm.own oa c) :: τ)).Perm (pack σ (dropG A (Γ.set i none)) ++ ((V.ref a, Tm.own oa c) :: ownE A as ++ τ)) := (List.perm_middle).append_left _
    exact ⟨h2.base, h2.len, fun x hx => h2.all x (pm.mem_iff.mpr hx), h2.ns, (addrs_perm pm).nodup_iff.mp h2.nd⟩
theorem addrs_ownE : ∀ {A : List AK} {vs : List V} {as : List Addr}, Args K g S H σ A vs as → addrs (ownE A as) = as
  | [], _, _, .nil => rfl
  | .d _ :: A, _, _, .d _ h => addrs_ownE (A := A) h
  | .o _ _ _ :: A, _, _, .o _ _ h => by simp [ownE, addrs, addrs_ownE (A := A) h]
theorem preOf_len : ∀ {A : List AK} {vs : List V} {as : List Addr}, Args K g S H σ A vs as → (preOf A as).length = vs.length
  | [], _, _, .nil => rfl
  | .d _ :: A, _, _, .d _ h => by simp [preOf, preOf_len (A := A) h]
  | .o _ _ _ :: A, _, _, .o _ _ h => by simp [preOf, preOf_len (A := A) h]
/-- how the callee finds its arguments -/
theorem pack_pre {F' : Hp} : ∀ {A : List AK} {vs : List V} {as : List Addr}, Args K g S H σ A vs as → (∀ a ∈ as, F' a = none) →
    (∀ x ∈ pack (vs.map some) (preOf A as), One K ⟨S, F'⟩ S H (vs.map some) x ∧ ∀ j, x.2 ≠ .als j) ∧ addrs (pack (vs.map some) (preOf A as)) = as := by
  intro A vs as h hf
  suffices ∀ σ', (∀ x ∈ pack (vs.map some) (preOf A as), One K ⟨S, F'⟩ S H σ' x ∧ ∀ j, x.2 ≠ .als j) ∧ addrs (pack (vs.map some) (preOf A as)) = as from this _
  intro σ'
  induction h with
  | nil => exact ⟨fun x hx => by simp [preOf, pack] at hx, rfl⟩
  | @d p v A vs as h1 _ ih =>
    obtain ⟨i1, i2⟩ := ih hf
    refine ⟨fun x hx => ?_, ?_⟩
    · rcases List.mem_cons.mp (show x ∈ (v, Tm.dat p) :: pack (vs.map some) (preOf A as) from hx) with rfl | hx
      · exact ⟨h1, fun j z => by cases z⟩
      · exact i1 x hx
    · show addrs ((v, Tm.dat p) :: pack (vs.map some) (preOf A as)) = as
      cases v <;> simpa [addrs] using i2
  | @o i oa c a A vs as h1 h2 _ ih =>
    obtain ⟨i1, i2⟩ := ih fun b hb => hf b (List.mem_cons_of_mem _ hb)
    refine ⟨fun x hx => ?_, ?_⟩
    · rcases List.mem_cons.mp (show x ∈ (V.ref a, Tm.own (some a) c) :: pack (vs.map some) (preOf A as) from hx) with rfl | hx
      · refine ⟨?_, fun j z => by cases z⟩
        obtain ⟨a', o, e, _, k2, _, k4, k5⟩ := h2
        cases e
        exact ⟨a, o, rfl, fun b e => (Option.some.inj e).symm, k2, hf a List.mem_cons_self, k4, k5⟩
      · exact i1 x hx
    · show addrs ((V.ref a, Tm.own (some a) c) :: pack (vs.map some) (preOf A as)) = a :: as
      simp [addrs, i2]
/-- what the callee leaves of them -/
theorem post_own {S2 H2 : Hp} {g' : Gh} {σ2 : St} : ∀ {A : List AK} {vs : List V} {as : List Addr} {cs : List Cell} {σ3 : St}, Args K g S H σ A vs as → cs.length = nOwn A → (∀ x ∈ pack σ3 (postOf A cs as), One K g' S2 H2 σ2 x) →
    (∀ x ∈ ownE' A cs as, One K g S2 H2 σ x) ∧ addrs (ownE' A cs as) = as ∧ ∀ a ∈ as, a ∈ addrs (pack σ3 (postOf A cs as)) := by
  intro A vs as cs σ3 h
  induction h generalizing cs σ3 with
  | nil => intro _ _; exact ⟨fun x hx => by simp [ownE'] at hx, rfl, fun a ha => by cases ha⟩
  | @d p v A vs as h1 _ ih =>
    intro hc hp
    exact ih (σ3 := σ3.tail) hc fun x hx => hp x hx
  | @o i oa c a A vs as h1 h2 _ ih =>
    intro hc hp
    cases cs with
    | nil => simp [nOwn] at hc
    | cons c' cs =>
      have hd : ∃ w r, (w, Tm.own (some a) c') ∈ pack σ3 (postOf (.o i oa c :: A) (c' :: cs) (a :: as)) ∧ r = σ3.tail ∧ (∀ x ∈ pack r (postOf A cs as), x ∈ pack σ3 (postOf (.o i oa c :: A) (c' :: cs) (a :: as))) := by
        cases σ3 with
        | nil =>
          exact ((hp (V.non, Tm.bad) (by simp [postOf, pack])) : False).elim
        | cons y r =>
          cases y with
          | none => exact ((hp (V.non, Tm.bad) (by simp [postOf, pack])) : False).elim
          | some w => exact ⟨w, r, by simp [postOf, pack], rfl, fun x hx => by simp [postOf, pack, hx]⟩
      obtain ⟨w, r, m1, _, m2⟩ := hd
      obtain ⟨i1, i2, i3⟩ := ih (cs := cs) (σ3 := r) (by simpa [nOwn] using hc) fun x hx => hp x (m2 x hx)
      obtain ⟨a1, o1, e1, e2, k2, _, k4, k5⟩ := hp _ m1
      have ea : a = a1 := e2 a rfl
      subst ea
      obtain ⟨a0, o0, e0, j1, _, j3, _, _⟩ := h2
      cases e0
      refine ⟨fun x hx => ?_, by simp [ownE', addrs, i2], fun b hb => ?_⟩
      rotate_left
      · have ew : w = V.ref a := e1
        rcases List.mem_cons.mp hb with rfl | hb
        · rw [ew] at m1
          exact mem_addrs m1
        · obtain ⟨oa2, c2, hx⟩ := addrs_mem (i3 b hb)
          exact mem_addrs (m2 _ hx)
      rcases List.mem_cons.mp (show x ∈ (V.ref a, Tm.own oa c') :: ownE' A cs as from hx) with rfl | hx
      · exact ⟨a, o1, rfl, j1, k2, j3, k4, k5⟩
      · exact i1 x hx
theorem newG_len : ∀ (A : List AK) (cs : List Cell) (G : List (Option Tm)), (newG A cs G).length = G.length
  | [], _, _ => rfl
  | .d _ :: A, cs, G => newG_len A cs G
  | .o i _ _ :: A, c :: cs, G => by simp [newG, newG_len A cs]
  | .o i _ _ :: A, [], G => by simp [newG, newG_len A []]
/-- slots that are no arguments stay -/
theorem newG_none : ∀ (A : List AK) (cs : List Cell) (G : List (Option Tm)) (i : Nat), G[i]? = some none → OkA A G → (newG A cs G)[i]? = some none
  | [], _, _, _, h, _ => h
  | .d _ :: A, cs, G, i, h, ok => newG_none A cs G i h ok
  | .o j oa c :: A, c' :: cs, G, i, h, ok => by
    have hj : j ≠ i := fun z => by rw [z] at ok; rw [ok.1] at h; cases h
    show ((newG A cs (G.set j none)).set j _)[i]? = some none
    rw [List.getElem?_set_ne hj]
    exact newG_none A cs (G.set j none) i (by rw [List.getElem?_set_ne hj]; exact h) ok.2
  | .o j oa c :: A, [], G, i, h, ok => by
    have hj : j ≠ i := fun z => by rw [z] at ok; rw [ok.1] at h; cases h
    exact newG_none A [] (G.set j none) i (by rw [List.getElem?_set_ne hj]; exact h) ok.2
theorem newG_own : ∀ (A : List AK) (cs : List Cell) (G : List (Option Tm)) (k : Nat), cs.length = nOwn A → OkA A G → (∃ oa c, G[k]? = some (some (.own oa c))) → ∃ oa c, (newG A cs G)[k]? = some (some (.own oa c))
  | [], _, _, _, _, _, h => h
  | .d _ :: A, cs, G, k, hc, ok, h => newG_own A cs G k hc ok h
  | .o j oa c :: A, [], G, k, hc, ok, h => by simp [nOwn] at hc
  | .o j oa c :: A, c' :: cs, G, k, hc, ok, h => by
    by_cases hj : j = k
    · subst hj
      refine ⟨oa, c', ?_⟩
      show ((newG A cs (G.set j none)).set j _)[j]? = _
      rw [List.getElem?_set_self]
      rw [newG_len, List.length_set]
      exact (List.getElem?_eq_some_iff.mp ok.1).1
    · show ∃ oa' c'', ((newG A cs (G.set j none)).set j _)[k]? = _
      rw [List.getElem?_set_ne hj]
      exact newG_own A cs (G.set j none) k (by simpa [nOwn] using hc) ok.2 (by rw [List.getElem?_set_ne hj]; exact h)
/-- they come back to their slots -/
theorem put_back {S2 H2 : Hp} : ∀ {A : List AK} {vs : List V} {as : List Addr} {cs : List Cell} {Γ : List (Option Tm)} {τ : List (V × Tm)}, Args K g S H σ A vs as → cs.length = nOwn A → OkA A Γ →
    At0 K g S2 (dropG A Γ) σ (ownE' A cs as ++ τ) H2 → At0 K g S2 (newG A cs Γ) σ τ H2
  | [], _, _, _, _, _, .nil, _, _, h => h
  | .d _ :: A, _, _, _, _, _, .d _ a, hc, ok, h => put_back (A := A) a hc ok h
  | .o i oa c :: A, _, _, [], _, _, .o _ _ _, hc, _, _ => by simp [nOwn] at hc
  | .o i oa c :: A, _, a :: as, c' :: cs, Γ, τ, .o e1 ow ar, hc, ok, h => by
    have pm : (pack σ (dropG A (Γ.set i none)) ++ ((V.ref a, Tm.own oa c') :: ownE' A cs as ++ τ)).Perm (pack σ (dropG A (Γ.set i none)) ++ (ownE' A cs as ++ (V.ref a, Tm.own oa c') :: τ)) := (List.perm_middle.symm).append_left _
    have h' : At0 K g S2 (dropG A (Γ.set i none)) σ (ownE' A cs as ++ (V.ref a, Tm.own oa c') :: τ) H2 := ⟨h.base, h.len, fun x hx => h.all x (pm.mem_iff.mpr hx), h.ns, (addrs_perm pm).nodup_iff.mp h.nd⟩
    have h2 := put_back (A := A) ar (by simpa [nOwn] using hc) ok.2 h'
    have hi : i < Γ.length := (List.getElem?_eq_some_iff.mp ok.1).1
    refine h2.put (i := i) (by rw [newG_len, List.length_set]; exact hi) e1 (fun j z => by cases z) ?_
    exact newG_none A cs (Γ.set i none) i (List.getElem?_set_self hi) ok.2

theorem Args.inF : ∀ {A : List AK} {vs : List V} {as : List Addr}, Args K g S H σ A vs as → ∀ a ∈ as, g.F a = none ∧ S a = none
  | _, _, _, .nil, a, h => by cases h
  | _, _, _, .d _ r, a, h => Args.inF r a h
  | _, _, _, .o _ ow r, a, h => by
    rcases List.mem_cons.mp h with rfl | h
    · obtain ⟨a', o, e, _, k2, k3, _⟩ := ow
      cases e
      exact ⟨k3, k2⟩
    · exact Args.inF r a h
theorem Args.n {A : List AK} {vs : List V} {as : List Addr} (h : Args K g S H σ A vs as) : as.length = nOwn A := by
  induction h with
  | nil => rfl
  | d _ _ ih => exact ih
  | o _ _ _ ih => simp [nOwn, ih]
/-- THE CALL of a def by its promise -/
theorem f_call {EC : Str → Addr} {α ρ : Type} {n : Nat} {pre : α → List Addr → List (Option Tm)} {m : α → R ρ} {post : ρ → List Addr → List (Option Tm)} {ret : ρ → Tm} {Q : VK} {vs : List V} {Γw : List (Option Tm)} {EW : St → XK}
    (A : List AK) (arg : α) (cs : ρ → List Cell) (hA : At K g Γ σ ((vs.zip (A.map AK.tm)).reverse ++ τ) H) (hl : vs.length = A.length) (hn : A.length = n) (ok : OkA A Γ)
    (hpre : ∀ as, as.length = nOwn A → pre arg as = preOf A as) (hcs : ∀ r, (cs r).length = nOwn A) (hpost : ∀ r as, as.length = nOwn A → post r as = postOf A (cs r) as) (hret : ∀ r j, ret r ≠ .als j) (hw : Le Γw (dropG A Γ))
    (hm : OutR (m arg) (fun r => ∀ v H', At K g (newG A (cs r) Γ) σ ((v, ret r) :: τ) H' → Q v H') (fun x => ErP K EC g Γw x EW)) : Spec K EC n pre m post ret vs H Q (EW σ) := by
  obtain ⟨S, h⟩ := hA
  have hl2 : vs.length = (A.map AK.tm).length := by simpa using hl
  have hτ := h.pops
  obtain ⟨as, ar, h0⟩ := args_of (A := A) (vs := vs) (Γ := Γ) (τ := τ) (fun x hx => h.all x (List.mem_append_right _ (List.mem_append_left _ (List.mem_reverse.mpr hx)))) hl ok hτ.at0
  have hcl := ar.n
  have nd0 := h0.nd
  have ndas : as.Nodup := by
    rw [addrs_append, addrs_append, addrs_ownE ar] at nd0
    exact (List.nodup_append.mp (List.nodup_append.mp nd0).2.1).1
  refine ⟨by rw [hl, hn], arg, as, ⟨S, fun b => if b ∈ as then none else H b⟩, by rw [hpre _ hcl, preOf_len ar, hl, hn], ?_, ?_⟩
  · rw [hpre _ hcl]
    obtain ⟨p1, p2⟩ := pack_pre (F' := fun b => if b ∈ as then none else H b) ar fun a ha => if_pos ha
    refine ⟨S, ⟨Same.refl S, h.base.sh, fun b o e => ?_, fun b _ h0 => h0⟩, ?_, fun x hx => ?_, fun x hx => ?_, fun x hx => (by cases hx), ?_⟩
    · have e : (if b ∈ as then none else H b) = some o := e
      by_cases hb : b ∈ as
      · rw [if_pos hb] at e; cases e
      · rw [if_neg hb] at e; exact e
    · rw [preOf_len ar, List.length_map]; exact Nat.le_refl _
    · rw [List.append_nil] at hx
      exact (p1 x hx).1
    · exact (p1 x hx).2
    · rw [List.append_nil, p2]; exact ndas
  · have F1 : ∀ b, (if b ∈ as then none else H b) = none → g.F b = none := fun b e => by
      by_cases hb : b ∈ as
      · exact (ar.inF b hb).1
      · rw [if_neg hb] at e
        cases e2 : g.F b with
        | none => rfl
        | some o => rw [h.base.fh b o e2] at e; cases e
    have F2 : ∀ b o, g.F b = some o → (if b ∈ as then none else H b) = some o := fun b o e => by
      have hb : b ∉ as := fun z => by rw [(ar.inF b z).1] at e; cases e
      rw [if_neg hb]; exact h.base.fh b o e
    -- the ground behind the call
    have ground : ∀ {S2 H2 : Hp}, Base ⟨S, fun b => if b ∈ as then none else H b⟩ S2 H2 → Base g S2 H2 := fun {S2 H2} B =>
      ⟨h.base.s0.trans B.s0, B.sh, fun b o e => B.fh b o (F2 b o e), fun b hb h0' => B.fs b (by
        obtain ⟨o, e⟩ := Option.ne_none_iff_exists'.mp hb
        show (if b ∈ as then none else H b) ≠ none
        rw [F2 b o e]; exact Option.some_ne_none o) (h.base.fs b hb h0')⟩
    have stay : ∀ {S2 H2 : Hp} {x : V × Tm}, Base ⟨S, fun b => if b ∈ as then none else H b⟩ S2 H2 → (∀ a oa c, x = (.ref a, .own oa c) → a ∉ as) → One K g S H σ x → One K g S2 H2 σ x := fun {S2 H2 x} B ha q => by
      obtain ⟨v, t⟩ := x
      refine q.keep B.s0 fun b ht hv => ?_
      obtain ⟨oa, c, rfl⟩ := ht
      subst hv
      have hb := ha b oa c rfl
      obtain ⟨a', o, e, _, k2, _, k4, _⟩ := q
      cases e
      have eF : (if b ∈ as then none else H b) = some o := by rw [if_neg hb]; exact k4
      exact ⟨(B.fs b (by show (if b ∈ as then none else H b) ≠ none; rw [eF]; exact Option.some_ne_none o) k2).trans k2.symm, (B.fh b o eF).trans k4.symm⟩
    have apart : ∀ x ∈ pack σ (dropG A Γ) ++ τ, ∀ a oa c, x = (V.ref a, Tm.own oa c) → a ∉ as := fun x hx a oa c e ha => by
      subst e
      have pm : (pack σ (dropG A Γ) ++ (ownE A as ++ τ)).Perm (ownE A as ++ (pack σ (dropG A Γ) ++ τ)) := by
        rw [← List.append_assoc, ← List.append_assoc]
        exact (List.perm_append_comm).append_right τ
      have nd1 := (addrs_perm pm).nodup_iff.mp nd0
      rw [addrs_append, addrs_ownE ar] at nd1
      exact (List.nodup_append.mp nd1).2.2 a ha a (mem_addrs hx) rfl
    refine hm.imp (fun r k v H2 σ2 h2 => ?_) fun x k σ2 H2 S2 dd h2 => ?_
    · obtain ⟨S2, h2⟩ := h2
      rw [hpost r as hcl] at h2
      obtain ⟨o1, o2, o3⟩ := post_own (g := g) (S := S) (H := H) (σ := σ) (g' := ⟨S, fun b => if b ∈ as then none else H b⟩) (S2 := S2) (H2 := H2) (σ2 := σ2) (σ3 := σ2) ar (hcs r) fun x hx => h2.all x (List.mem_append_left _ hx)
      have top : One K g S2 H2 σ (v, ret r) := by
        have q := h2.top
        cases e : ret r with
        | dat p => rw [e] at q; exact q
        | own oa c =>
          rw [e] at q
          obtain ⟨a, o, e1, e2, e3, e4, e5, e6⟩ := q
          exact ⟨a, o, e1, e2, e3, F1 a e4, e5, e6⟩
        | als j => exact absurd e (hret r j)
        | bad => rw [e] at q; exact q
      have B := ground h2.base
      have fin : At0 K g S2 (dropG A Γ) σ (ownE' A (cs r) as ++ (v, ret r) :: τ) H2 := by
        refine ⟨B, h0.len, fun x hx => ?_, h0.ns, ?_⟩
        · rcases List.mem_append.mp hx with hx | hx
          · exact stay h2.base (apart x (List.mem_append_left _ hx)) (h0.all x (List.mem_append_left _ hx))
          · rcases List.mem_append.mp hx with hx | hx
            · exact o1 x hx
            · rcases List.mem_cons.mp hx with rfl | hx
              · exact top
              · exact stay h2.base (apart x (List.mem_append_right _ hx)) (h0.all x (List.mem_append_right _ (List.mem_append_right _ hx)))
        · have base_nd : (addrs (pack σ (dropG A Γ) ++ (ownE' A (cs r) as ++ τ))).Nodup := by
            rw [addrs_append, addrs_append, o2, ← addrs_ownE ar, ← addrs_append, ← addrs_append]
            exact nd0
          have pm : (pack σ (dropG A Γ) ++ (ownE' A (cs r) as ++ (v, ret r) :: τ)).Perm ((v, ret r) :: (pack σ (dropG A Γ) ++ (ownE' A (cs r) as ++ τ))) := by
            have p1 : (ownE' A (cs r) as ++ (v, ret r) :: τ).Perm ((v, ret r) :: (ownE' A (cs r) as ++ τ)) := List.perm_middle
            exact (p1.append_left _).trans List.perm_middle
          refine (addrs_perm pm).nodup_iff.mpr ?_
          cases ev : v with
          | ref b =>
            cases et : ret r with
            | own oa c =>
              show (b :: addrs (pack σ (dropG A Γ) ++ (ownE' A (cs r) as ++ τ))).Nodup
              refine List.nodup_cons.mpr ⟨fun hb => ?_, base_nd⟩
              have q := h2.top
              rw [ev, et] at q
              obtain ⟨b', o, e1, _, _, e4, _, _⟩ := q
              cases e1
              have e4' : (if b ∈ as then none else H b) = none := e4
              have nb : b ∉ as := fun hbas => by
                have n2 := h2.nd
                rw [addrs_append, ev, et] at n2
                exact (List.nodup_append.mp n2).2.2 b (o3 b hbas) b (by simp [addrs]) rfl
              rw [if_neg nb] at e4'
              obtain ⟨oa', c', hx⟩ := addrs_mem hb
              have inold : (V.ref b, Tm.own oa' c') ∈ pack σ (dropG A Γ) ++ τ := by
                rcases List.mem_append.mp hx with hx | hx
                · exact List.mem_append_left _ hx
                · rcases List.mem_append.mp hx with hx | hx
                  · exact absurd (by have := mem_addrs hx; rw [o2] at this; exact this) nb
                  · exact List.mem_append_right _ hx
              have q2 : One K g S H σ (V.ref b, Tm.own oa' c') := by
                rcases List.mem_append.mp inold with hx | hx
                · exact h0.all _ (List.mem_append_left _ hx)
                · exact h0.all _ (List.mem_append_right _ (List.mem_append_right _ hx))
              obtain ⟨b', o', e1, _, _, _, e5, _⟩ := q2
              cases e1
              rw [e4'] at e5; cases e5
            | dat p => exact base_nd
            | als j => exact base_nd
            | bad => exact base_nd
          | _ => cases ret r <;> exact base_nd
      have h3 := put_back (A := A) (cs := cs r) (Γ := Γ) (τ := (v, ret r) :: τ) ar (hcs r) ok fin
      refine k v H2 ⟨S2, h3.base, h3.len, h3.all, h3.ns, fun x hx j e => ?_, h3.nd⟩
      rcases List.mem_cons.mp hx with rfl | hx
      · exact absurd e (hret r j)
      · exact newG_own A (cs r) Γ j (hcs r) ok (hτ.al x hx j e)
    · intro hxf
      have fin : AtS K g S2 (dropG A Γ) σ [] H2 := by
        refine ⟨ground h2.base, h0.len, fun x hx => ?_, h0.ns, fun x hx => (by cases hx), ?_⟩
        · rw [List.append_nil] at hx
          exact stay h2.base (apart x (List.mem_append_left _ hx)) (h0.all x (List.mem_append_left _ hx))
        · rw [List.append_nil]
          rw [addrs_append] at nd0
          exact (List.nodup_append.mp nd0).1
      have fin2 : AtS K g S2 Γw σ [] H2 := by
        have sub : (pack σ Γw ++ []).Sublist (pack σ (dropG A Γ) ++ []) := (hw.sub σ).append_right []
        exact ⟨fin.base, Nat.le_trans hw.len fin.len, fun x hx => fin.all x (sub.subset hx), fun x hx => fin.ns x ((hw.sub σ).subset hx), fun x hx => (by cases hx), fin.nd.sublist (addrs_sub sub)⟩
      exact k σ H2 S2 dd fin2 hxf
end
end Gv

set_option Elab.async false
set_option linter.all false
set_option maxRecDepth 100000
set_option maxHeartbeats 1000000
/-! Gv: statements, loops, comprehensions, defs -/
namespace Gv
open PySem L2

structure Fx (ρ : Type) where
  EC : Str → Addr
  post : ρ → List (Option Tm)
  ret : ρ → Tm
  Gw : List (Option Tm)
  EW : St → XK
abbrev NxW (K : PySem.W.Frag) (g : Gh) {α : Type} (n : α → List (Option Tm)) (P : St → Hp → Prop) : α → Prop := fun a => ∀ σ' H', At K g (n a) σ' [] H' → P σ' H'
abbrev RtW (K : PySem.W.Frag) (g : Gh) {ρ : Type} (X : Fx ρ) (P : VK) : ρ → Prop := fun r => ∀ v H' σ', At K g (X.post r) σ' [(v, X.ret r)] H' → P v H'
abbrev ErW (K : PySem.W.Frag) (g : Gh) {ρ : Type} (X : Fx ρ) : Er → Prop := fun x => ErP K X.EC g X.Gw x X.EW
/-- a block does what the mirror tells -/
def BJ (K : PySem.W.Frag) {ρ lam α : Type} (X : Fx ρ) (Γ : List (Option Tm)) (ts : TS) (m : O ρ lam α) (n : α → List (Option Tm)) (b c : lam → List (Option Tm)) : Prop :=
  ∀ g σ H (D : Ends), At K g Γ σ [] H → Out m (NxW K g n D.nx) (RtW K g X D.rt) (NxW K g b D.bk) (NxW K g c D.ct) (ErW K g X) → ts D σ H

section
variable {K : PySem.W.Frag} {ρ lam α β γ : Type} {X : Fx ρ} {Γ Γ' : List (Option Tm)} {n : α → List (Option Tm)} {b c : lam → List (Option Tm)} {t u : TS} {ta tb te : TE} {tc : TT} {m m1 m2 : O ρ lam α} {i : Nat} {p : VP}

theorem bj_nx {a : α} (l : Le (n a) Γ) : BJ K X Γ tNext (.nx a : O ρ lam α) n b c := fun g σ H D hA hm => hm σ H (hA.weak l)
theorem bj_bk {a : lam} (l : Le (b a) Γ) : BJ K X Γ (tSeq tBreak u) (.bk a : O ρ lam α) n b c := fun g σ H D hA hm => hm σ H (hA.weak l)
theorem bj_ct {a : lam} (l : Le (c a) Γ) : BJ K X Γ (tSeq tCont u) (.ct a : O ρ lam α) n b c := fun g σ H D hA hm => hm σ H (hA.weak l)
theorem bj_pass (h : BJ K X Γ u m n b c) : BJ K X Γ (tSeq tNext u) m n b c := h
theorem bj_ret {r : ρ} (he : EV K Γ te (X.ret r)) (hr : ∀ j, X.ret r ≠ .als j) (l : Le (X.post r) Γ) : BJ K X Γ (tSeq (tRet te) u) (.rt r : O ρ lam α) n b c := fun g σ H D hA hm =>
  he g σ [] H D.rt hA fun v H' h' => hm v H' σ (h'.weak1 l hr)
theorem bj_retN {r : ρ} (hr : X.ret r = .dat eN) (l : Le (X.post r) Γ) : BJ K X Γ (tSeq tRetN u) (.rt r : O ρ lam α) n b c := fun g σ H D hA hm =>
  hm .non H σ (by
    have : At K g Γ σ [(.non, .dat eN)] H := hA.scal fun _ => rfl
    rw [hr]
    exact this.weak1 l fun j z => by cases z)
/-- return of an own list that stands in a slot -/
theorem bj_retO {r : ρ} {oa : Option Addr} {cl : Cell} (hg : Γ[i]? = some (some (.own oa cl))) (hr : X.ret r = .own none cl) (l : Le (X.post r) (Γ.set i none)) : BJ K X Γ (tSeq (tRet (tVar i)) u) (.rt r : O ρ lam α) n b c := fun g σ H D ⟨S, hA⟩ hm => by
  obtain ⟨a, e1, ow, h0⟩ := hA.at0.take hg
  refine ⟨.ref a, e1, hm (.ref a) H σ ?_⟩
  rw [hr]
  refine At.weak1 ⟨S, h0.base, h0.len, fun x hx => ?_, h0.ns, fun x hx k e => ?_, ?_⟩ l (fun j z => by cases z)
  · rcases List.mem_append.mp hx with hx | hx
    · exact h0.all x (List.mem_append_left _ hx)
    · have : x = (V.ref a, Tm.own none cl) := by simpa using hx
      subst this
      obtain ⟨a', o, e, _, k⟩ := ow
      exact ⟨a', o, e, fun b z => (nomatch z), k⟩
  · have : x = (V.ref a, Tm.own none cl) := by simpa using hx
    subst this
    cases e
  · have := h0.nd
    rw [addrs_append] at this ⊢
    exact this
/-- return of an own list, frozen -/
theorem bj_retF {r : ρ} {oa : Option Addr} {ps : List VP} (hg : Γ[i]? = some (some (.own oa (.lst ps)))) (hr : X.ret r = .dat (rL ps)) (l : Le (X.post r) (Γ.set i none)) : BJ K X Γ (tSeq (tRet (tVar i)) u) (.rt r : O ρ lam α) n b c := fun g σ H D hA hm => by
  refine bj_retO (K := K) (X := { X with ret := fun _ => .own none (.lst ps) }) (u := u) (n := n) (b := b) (c := c) (r := r) hg rfl l g σ H D hA (fun v H' σ' h' => ?_)
  have := h'.frz
  rw [← hr] at this
  exact hm v H' σ' this
theorem bj_seq {n1 : β → List (Option Tm)} {m1 : O ρ lam β} {f : β → O ρ lam α} (h1 : BJ K X Γ t m1 n1 b c) (h2 : ∀ a, BJ K X (n1 a) u (f a) n b c) : BJ K X Γ (tSeq t u) (m1.bind f) n b c := fun g σ H D hA hm =>
  h1 g σ H { D with nx := u D } hA (hm.bind.imp (fun a q σ' H' h' => h2 a g σ' H' D h' q) (fun _ q => q) (fun _ q => q) (fun _ q => q) fun _ q => q)
/-- a = e -/
theorem bj_asg {f : β → O ρ lam α} {e : β} (tm : β → Tm) (he : EV K Γ te (tm e)) (hn : ∀ t j, tm t ≠ .als j) (h : ∀ t, BJ K X (Γ.set i (some (tm t))) u (f t) n b c) (hi : Γ[i]?.isSome = true := by rfl) : BJ K X Γ (tSeq (tAsg te (gName i)) u) (lt e f) n b c := fun g σ H D hA hm =>
  he g σ [] H _ hA fun v H' ⟨S, h'⟩ => h e g _ H' D ⟨S, h'.set (by
    obtain ⟨x, hx⟩ := Option.isSome_iff_exists.mp hi
    exact (List.getElem?_eq_some_iff.mp hx).1) (hn e) (fun x hx => (by cases hx))⟩ hm
theorem At.set1 {g : Gh} {σ : St} {H : Hp} {v : V} {t : Tm} (h : At K g Γ σ [(v, t)] H) (hn : ∀ j, t ≠ .als j) (hi : Γ[i]?.isSome = true) : At K g (Γ.set i (some t)) (σ.set i (some v)) [] H := by
  obtain ⟨S, h⟩ := h
  obtain ⟨x, hx⟩ := Option.isSome_iff_exists.mp hi
  exact ⟨S, h.set (List.getElem?_eq_some_iff.mp hx).1 hn (fun x hx => (by cases hx))⟩
theorem bj_if {cc : Bool} (hc : EVB K Γ tc cc) (h1 : BJ K X Γ t m1 n b c) (h2 : BJ K X Γ u m2 n b c) : BJ K X Γ (tIfS tc t u) (if cc then m1 else m2) n b c := fun g σ H D hA hm =>
  hc g σ [] H _ hA fun H' h' => by
    cases cc with
    | true => exact h1 g σ H' D h' hm
    | false => exact h2 g σ H' D h' hm
/-- an if whose first branch leaves -/
theorem bj_ifL {w : TS} {cc : Bool} (hc : EVB K Γ tc cc) (h1 : BJ K X Γ (tSeq t w) m1 n b c) (h2 : BJ K X Γ (tSeq u w) m2 n b c) : BJ K X Γ (tSeq (tIfS tc t u) w) (if cc then m1 else m2) n b c := fun g σ H D hA hm =>
  hc g σ [] H _ hA fun H' h' => by
    cases cc with
    | true => exact h1 g σ H' D h' hm
    | false => exact h2 g σ H' D h' hm
theorem bj_weak (l : Le Γ' Γ) (h : BJ K X Γ' t m n b c) : BJ K X Γ t m n b c := fun g σ H D hA hm => h g σ H D (hA.weak l) hm
theorem bj_drop (he : EV K Γ te p') (h : BJ K X Γ u m n b c) : BJ K X Γ (tSeq (tDrop te) u) m n b c := fun g σ H D hA hm =>
  he g σ [] H _ hA fun v H' h' => h g σ H' D h'.pop hm
theorem bj_let {f : β → O ρ lam α} {e : β} (h : BJ K X Γ u (f e) n b c) : BJ K X Γ u (lt e f) n b c := h

/-! ### methods of own lists -/
def appR {α : Type} (xs : List α) (x : α) : R (List α) := gd (decide (xs.length < 1000000)) (xs ++ [x])
def popR {α : Type} (xs : List α) : R (α × List α) := match xs[xs.length - 1]? with
  | some y => .nx (y, xs.dropLast)
  | none => .stuck
def setR {α : Type} (xs : List α) (i : Int) (x : α) : R (List α) := match ixN xs.length i with
  | some j => .nx (xs.set j x)
  | none => .stuck
theorem AtS.tyL {g : Gh} {S H : Hp} {σ : St} {τ : List (V × Tm)} {v : V} {t : Tm} {ps : List VP} (h : AtS K g S Γ σ τ H) (hm : (v, t) ∈ τ) (hl : IsL Γ t ps) : tyV K "list" v H := by
  obtain ⟨a, vs, rfl, h2, _⟩ := h.isL hm hl
  exact .inl ⟨rfl, vs, h2⟩
/-- behind a write, the alias on the stack goes -/
theorem AtS.wr {g : Gh} {S H : Hp} {σ : St} {τ : List (V × Tm)} {oa : Option Addr} {c c' : Cell} {o' : HO} {v : V} (h : AtS K g S Γ σ τ H) (hm : (v, .als i) ∈ τ) (e : Γ[i]? = some (some (.own oa c))) (k : CellOk K S c' o') :
    ∃ a o, v = .ref a ∧ H a = some o ∧ CellOk K S c o ∧ AtS K g S (Γ.set i (some (.own oa c'))) σ τ (upd H a o') := by
  obtain ⟨a, o, e1, e2, e3, e4⟩ := h.write e k
  have q : σ[i]? = some (some v) := h.all _ (List.mem_append_right _ hm)
  rw [e1] at q
  exact ⟨a, o, by simpa using q.symm, e2, e3, e4⟩
/-- xs.append(x): the item on top, the alias below it -/
theorem f_app {g : Gh} {H : Hp} {σ : St} {τ : List (V × Tm)} {e : α → VP} {xs : List α} {a : α} {x y : V} {oa : Option Addr} {Q : VK} {E : Er → Prop} (hg : Γ[i]? = some (some (.own oa (.lst (xs.map e))))) (hA : At K g Γ σ ((y, .dat (e a)) :: (x, .als i) :: τ) H)
    (hm : OutR (appR xs a) (fun ys => ∀ H', At K g (Γ.set i (some (.own oa (.lst (ys.map e))))) σ τ H' → Q .non H') E) : rAppend x [y] H Q := by
  obtain ⟨S, h⟩ := hA
  obtain ⟨hc, k⟩ := hm.gd
  obtain ⟨a', vs, rfl, h2, h3⟩ := h.isO (List.mem_cons_of_mem _ List.mem_cons_self) (.als hg)
  have d : Hds K S ((xs ++ [a]).map e) (vs ++ [y]) := by
    rw [List.map_append]
    exact h3.append (.cons h.top .nil)
  obtain ⟨a2, o, e1, _, _, e4⟩ := h.wr (v := .ref a') (List.mem_cons_of_mem _ List.mem_cons_self) hg (c' := .lst ((xs ++ [a]).map e)) (o' := .lst (vs ++ [y])) ⟨_, rfl, d⟩
  cases e1
  refine ⟨a', vs, y, rfl, rfl, h2, ?_, k _ ⟨S, e4.pop.pop⟩⟩
  rw [h3.len, List.length_map]
  exact lt_line (of_decide_eq_true hc)
theorem bj_app {f : List β → O ρ lam α} {e : β → VP} {xs : List β} {a : β} {oa : Option Addr} (hg : Γ[i]? = some (some (.own oa (.lst (xs.map e))))) (he : EV K Γ te (.dat (e a)))
    (h : ∀ ys, BJ K X (Γ.set i (some (.own oa (.lst (ys.map e))))) u (f ys) n b c) : BJ K X Γ (tSeq (tDrop (tBM K "list" rAppend (tVar i) (tCons te tNil))) u) (bindR (appR xs a) f) n b c := fun g σ H D hA hm =>
  x_drop <| x_bm1 <| ev_own hg g σ [] H _ hA fun x H1 ⟨S, h1⟩ => ⟨h1.tyL List.mem_cons_self (.als hg), he g σ _ H1 _ ⟨S, h1⟩ fun y H2 h2 =>
    f_app hg h2 (hm.bindR.imp (fun ys q H3 h3 => h ys g σ H3 D h3 q) fun _ q => q)⟩
/-- xs.pop() -/
theorem f_pop {g : Gh} {H : Hp} {σ : St} {τ : List (V × Tm)} {e : α → VP} {xs : List α} {x : V} {oa : Option Addr} {Q : VK} {E : Er → Prop} (hg : Γ[i]? = some (some (.own oa (.lst (xs.map e))))) (hA : At K g Γ σ ((x, .als i) :: τ) H)
    (hm : OutR (popR xs) (fun r => ∀ v H', At K g (Γ.set i (some (.own oa (.lst (r.2.map e))))) σ ((v, .dat (e r.1)) :: τ) H' → Q v H') E) : rPop x [] H Q := by
  obtain ⟨S, h⟩ := hA
  unfold popR at hm
  cases e0 : xs[xs.length - 1]? with
  | none => rw [e0] at hm; exact hm.elim
  | some y =>
    rw [e0] at hm
    obtain ⟨a', vs, rfl, h2, h3⟩ := h.isO List.mem_cons_self (.als hg)
    have e1 : (xs.map e)[xs.length - 1]? = some (e y) := by rw [List.getElem?_map, e0]; rfl
    obtain ⟨w, w1, w2⟩ := h3.get e1
    have d : Hds K S (xs.dropLast.map e) vs.dropLast := by
      rw [List.map_dropLast]
      exact h3.dropLast
    obtain ⟨a2, o, e2, _, _, e4⟩ := h.wr (v := .ref a') List.mem_cons_self hg (c' := .lst (xs.dropLast.map e)) (o' := .lst vs.dropLast) ⟨_, rfl, d⟩
    cases e2
    refine ⟨a', vs, w, rfl, rfl, h2, ?_, hm w _ ⟨S, e4.pop.push w2⟩⟩
    rw [h3.len, List.length_map]
    exact w1
theorem x_pop {σ : St} {H : Hp} {Q : VK} {g : Gh} {τ : List (V × Tm)} {e : α → VP} {xs : List α} {oa : Option Addr} {E : Er → Prop} (hg : Γ[i]? = some (some (.own oa (.lst (xs.map e))))) (hA : At K g Γ σ τ H)
    (hm : OutR (popR xs) (fun r => ∀ v H', At K g (Γ.set i (some (.own oa (.lst (r.2.map e))))) σ ((v, .dat (e r.1)) :: τ) H' → Q v H') E) : tBM0 K "list" rPop (tVar i) σ H Q :=
  ev_own hg g σ τ H _ hA fun x H1 ⟨S, h1⟩ => ⟨h1.tyL List.mem_cons_self (.als hg), f_pop hg ⟨S, h1⟩ hm⟩
/-- xs.reverse() -/
theorem bj_rev {f : List β → O ρ lam α} {e : β → VP} {xs : List β} {oa : Option Addr} (hg : Γ[i]? = some (some (.own oa (.lst (xs.map e)))))
    (h : ∀ ys, BJ K X (Γ.set i (some (.own oa (.lst (ys.map e))))) u (f ys) n b c) : BJ K X Γ (tSeq (tDrop (tBM0 K "list" rReverse (tVar i))) u) (lt xs.reverse f) n b c := fun g σ H D hA hm =>
  x_drop <| x_bm0 <| ev_own hg g σ [] H _ hA fun x H1 ⟨S, h1⟩ => ⟨h1.tyL List.mem_cons_self (.als hg), by
    obtain ⟨a', vs, rfl, h2, h3⟩ := h1.isO List.mem_cons_self (.als hg)
    have d : Hds K S (xs.reverse.map e) vs.reverse := by
      rw [List.map_reverse]
      exact h3.rev
    obtain ⟨a2, o, e2, _, _, e4⟩ := h1.wr (v := .ref a') List.mem_cons_self hg (c' := .lst (xs.reverse.map e)) (o' := .lst vs.reverse) ⟨_, rfl, d⟩
    cases e2
    exact ⟨a', vs, rfl, rfl, h2, h _ g σ _ D ⟨S, e4.pop⟩ hm⟩⟩
/-- xs[j] = x: the value below the alias, the place on top -/
theorem f_set {g : Gh} {H : Hp} {σ : St} {τ : List (V × Tm)} {e : α → VP} {xs : List α} {j : Int} {a : α} {x y z : V} {oa : Option Addr} {Q : Hp → Prop} {E : Er → Prop} (hg : Γ[i]? = some (some (.own oa (.lst (xs.map e))))) (hA : At K g Γ σ ((y, .dat (eI j)) :: (x, .als i) :: (z, .dat (e a)) :: τ) H)
    (hm : OutR (setR xs j a) (fun ys => ∀ H', At K g (Γ.set i (some (.own oa (.lst (ys.map e))))) σ τ H' → Q H') E) : rSetL x y z H Q := by
  obtain ⟨S, h⟩ := hA
  unfold setR at hm
  cases e0 : ixN xs.length j with
  | none => rw [e0] at hm; exact hm.elim
  | some k =>
    rw [e0] at hm
    obtain ⟨a', vs, rfl, h2, h3⟩ := h.isO (List.mem_cons_of_mem _ List.mem_cons_self) (.als hg)
    have d : Hds K S ((xs.set k a).map e) (vs.set k z) := by
      rw [List.map_set]
      exact h3.set h.pop.pop.top k
    obtain ⟨a2, o, e2, _, _, e4⟩ := h.wr (v := .ref a') (List.mem_cons_of_mem _ List.mem_cons_self) hg (c' := .lst ((xs.set k a).map e)) (o' := .lst (vs.set k z)) ⟨_, rfl, d⟩
    cases e2
    refine ⟨a', vs, j, k, rfl, h.top.i, h2, ?_, hm _ ⟨S, e4.pop.pop.pop⟩⟩
    rw [h3.len, List.length_map]
    exact e0
/-- xs[j] = e with plain parts -/
theorem bj_set {f : List β → O ρ lam α} {e : β → VP} {xs : List β} {a : β} {j : Int} {oa : Option Addr} (hg : Γ[i]? = some (some (.own oa (.lst (xs.map e))))) (he : EV K Γ te (.dat (e a))) (hj : EV K Γ tb (.dat (eI j)))
    (h : ∀ ys, BJ K X (Γ.set i (some (.own oa (.lst (ys.map e))))) u (f ys) n b c) : BJ K X Γ (tSeq (tAsg te (gSub (tVar i) tb rSetL)) u) (bindR (setR xs j a) f) n b c := fun g σ H D hA hm =>
  he g σ [] H _ hA fun z H1 h1 => ev_own hg g σ _ H1 _ h1 fun x H2 h2 => hj g σ _ H2 _ h2 fun y H3 h3 =>
    f_set hg h3 (hm.bindR.imp (fun ys q H4 h4 => h ys g σ H4 D h4 q) fun _ q => q)

end

/-! ### targets -/
def setS : St → List Nat → List V → St
  | σ, [], _ => σ
  | σ, _ :: _, [] => σ
  | σ, j :: js, v :: vs => setS (σ.set j (some v)) js vs
def setG : List (Option Tm) → List Nat → List VP → List (Option Tm)
  | G, [], _ => G
  | G, _ :: _, [] => G
  | G, j :: js, p :: ps => setG (G.set j (some (.dat p))) js ps
theorem setS_app : ∀ {js ks : List Nat} {vs ws : List V} {σ : St}, vs.length = js.length → setS σ (js ++ ks) (vs ++ ws) = setS (setS σ js vs) ks ws
  | [], _, [], _, _, _ => rfl
  | [], _, _ :: _, _, _, h => by simp at h
  | _ :: _, _, [], _, _, h => by simp at h
  | j :: js, ks, v :: vs, ws, σ, h => setS_app (js := js) (vs := vs) (σ := σ.set j (some v)) (by simpa using h)
theorem setG_app : ∀ {js ks : List Nat} {ps qs : List VP} {G : List (Option Tm)}, ps.length = js.length → setG G (js ++ ks) (ps ++ qs) = setG (setG G js ps) ks qs
  | [], _, [], _, _, _ => rfl
  | [], _, _ :: _, _, _, h => by simp at h
  | _ :: _, _, [], _, _, h => by simp at h
  | j :: js, ks, v :: vs, ws, G, h => setG_app (js := js) (ps := vs) (G := G.set j (some (.dat v))) (by simpa using h)
theorem setG_len : ∀ {js : List Nat} {ps : List VP} {G : List (Option Tm)}, (setG G js ps).length = G.length
  | [], _, _ => rfl
  | _ :: _, [], _ => rfl
  | j :: js, p :: ps, G => by
    show (setG (G.set j (some (.dat p))) js ps).length = _
    rw [setG_len, List.length_set]
/-- a target takes the value on top: the slots js take what the ps tell -/
def TJ (K : PySem.W.Frag) (tg : TG) (p : VP) (js : List Nat) (ps : List VP) : Prop := ps.length = js.length ∧ ∀ g Γ σ τ H x (Q : St → Hp → Prop), (∀ j ∈ js, j < Γ.length) → (∀ y ∈ τ, ∀ k, y.2 = Tm.als k → k ∉ js) → At K g Γ σ ((x, .dat p) :: τ) H →
  (∀ vs H', vs.length = js.length → At K g (setG Γ js ps) (setS σ js vs) τ H' → Q (setS σ js vs) H') → tg x σ H Q
def TJs (K : PySem.W.Frag) (tg : TGs) (qs : List VP) (js : List Nat) (ps : List VP) : Prop := ps.length = js.length ∧ ∀ g Γ σ τ H xs (Q : St → Hp → Prop), (∀ j ∈ js, j < Γ.length) → (∀ y ∈ τ, ∀ k, y.2 = Tm.als k → k ∉ js) → xs.length = qs.length → At K g Γ σ (xs.zip (qs.map Tm.dat) ++ τ) H →
  (∀ vs H', vs.length = js.length → At K g (setG Γ js ps) (setS σ js vs) τ H' → Q (setS σ js vs) H') → tg xs σ H Q
section
variable {K : PySem.W.Frag} {tg : TG} {tgs : TGs} {p : VP} {ps qs rs : List VP} {js ks : List Nat} {i : Nat}
theorem tj_name : TJ K (gName i) p [i] [p] := ⟨rfl, fun g Γ σ τ H x Q hi hτ ⟨S, hA⟩ k =>
  k [x] H rfl ⟨S, hA.set (hi i List.mem_cons_self) (fun j z => by cases z) fun y hy k e => (fun z => hτ y hy k e (by rw [z]; exact List.mem_cons_self))⟩⟩
theorem tjs_nil : TJs K gNil [] [] [] := ⟨rfl, fun g Γ σ τ H xs Q hi hτ hl hA k => by
  cases xs with
  | nil => exact ⟨rfl, k [] H rfl hA⟩
  | cons _ _ => simp at hl⟩
theorem tjs_cons (h1 : TJ K tg p js ps) (h2 : TJs K tgs qs ks rs) : TJs K (gCons tg tgs) (p :: qs) (js ++ ks) (ps ++ rs) := ⟨by rw [List.length_append, List.length_append, h1.1, h2.1], fun g Γ σ τ H xs Q hi hτ hl hA k => by
  cases xs with
  | nil => simp at hl
  | cons x xs =>
    refine ⟨x, xs, rfl, h1.2 g Γ σ (xs.zip (qs.map Tm.dat) ++ τ) H x _ (fun j hj => hi j (List.mem_append_left _ hj)) (fun y hy k e => ?_) hA fun vs H1 e1 hA1 => ?_⟩
    · rcases List.mem_append.mp hy with hy | hy
      · obtain ⟨q, _, e2⟩ := List.mem_map.mp (List.of_mem_zip (show (y.1, y.2) ∈ _ from hy)).2
        rw [e] at e2; cases e2
      · exact fun z => hτ y hy k e (List.mem_append_left _ z)
    · refine h2.2 g _ _ τ H1 xs _ (fun j hj => by rw [setG_len]; exact hi j (List.mem_append_right _ hj)) (fun y hy k e z => hτ y hy k e (List.mem_append_right _ z)) (by simpa using hl) hA1 fun ws H2 e2 hA2 => ?_
      have q := k (vs ++ ws) H2 (by rw [List.length_append, List.length_append, e1, e2])
      rw [setS_app e1, setG_app h1.1] at q
      exact q hA2⟩
theorem AtS.pushes {g : Gh} {S H : Hp} {Γ : List (Option Tm)} {σ : St} {τ : List (V × Tm)} : ∀ {qs : List VP} {xs : List V}, Hds K S qs xs → AtS K g S Γ σ τ H → AtS K g S Γ σ (xs.zip (qs.map Tm.dat) ++ τ) H
  | _, _, .nil, h => h
  | _, _, .cons r t, h => (AtS.pushes t h).push r
theorem tj_tup {n : Nat} (h : TJs K tgs qs js ps) (hn : qs.length = n) : TJ K (gTup K n tgs) (rT qs) js ps := ⟨h.1, fun g Γ σ τ H x Q hi hτ ⟨S, hA⟩ k => by
  obtain ⟨a, vs, rfl, h2, h3⟩ := hA.isT List.mem_cons_self
  exact ⟨a, vs, rfl, h2, by rw [h3.len, hn], h.2 g Γ σ τ H vs Q hi hτ h3.len ⟨S, hA.pop.pushes h3⟩ k⟩⟩
end
end Gv

set_option Elab.async false
set_option linter.all false
set_option maxRecDepth 100000
set_option maxHeartbeats 1000000
/-! Gv: loops, comprehensions, defs -/
namespace Gv
open PySem L2

/-! ### what a loop walks -/
/-- wi walks the items that m tells -/
def ITM (K : PySem.W.Frag) (Γ : List (Option Tm)) (wi : TI) {β : Type} (m : R (List β)) (e : β → VP) : Prop :=
  ∀ (g : Gh) (σ : St) (τ : List (V × Tm)) (H : Hp) (Rk : It → Hp → Prop) (E : Er → Prop), At K g Γ σ τ H →
    OutR m (fun xs => ∀ (J : It) (Gd : Hp → Prop) (Y : Nat → Hp → V → Hp → Prop) (S1 H' : Hp), Walk J xs.length Gd Y → Same g.S0 S1 → (∀ b, g.F b ≠ none → g.S0 b = none → S1 b = none) → At K ⟨S1, g.F⟩ Γ σ τ H' →
      (∀ S2 H2, Base ⟨S1, g.F⟩ S2 H2 → Gd H2) →
      (∀ (i : Nat) (b : β) (x : V) (H1 H2 : Hp) (Γ' : List (Option Tm)) (σ' : St) (τ' : List (V × Tm)), xs[i]? = some b → Y i H1 x H2 → At K ⟨S1, g.F⟩ Γ' σ' τ' H1 → At K ⟨S1, g.F⟩ Γ' σ' ((x, .dat (e b)) :: τ') H2) → Rk J H') E → wi σ H Rk
section
variable {K : PySem.W.Frag} {Γ : List (Option Tm)} {wi : TI} {te ta tb : TE} {β : Type} {e : β → VP}
theorem Base.reS {g : Gh} {S S2 H2 : Hp} (B : Base ⟨S, g.F⟩ S2 H2) : Same S H2 := fun b o h => B.sh b o (B.s0 b o h)
theorem it_list (xs : List β) (e : β → VP) (he : EV K Γ te (.dat (eL e xs))) : ITM K Γ (iList K te) (.nx xs) e := fun g σ τ H Rk E hA hm =>
  he g σ τ H _ hA fun v H' ⟨S, h⟩ => by
    obtain ⟨a, vs, rfl, h2, h3⟩ := Hd.l h.top
    have hl : vs.length = xs.length := by rw [h3.len, List.length_map]
    refine ⟨a, rfl, ⟨vs, h.base.sh.seq h2⟩, hm (Itl K a) (fun H => SqL K H a vs) (YAt vs) S H' (by rw [← hl]; exact walk_list) h.base.s0 h.base.fs ⟨S, h.pop.reS⟩ (fun S2 H2 B => B.reS.seq h2) fun i b x H1 H2 Γ' σ' τ' hb hy ⟨S2, hA2⟩ => ?_⟩
    obtain ⟨rfl, hx⟩ := hy
    obtain ⟨w, w1, w2⟩ := h3.get (show (xs.map e)[i]? = some (e b) by rw [List.getElem?_map, hb]; rfl)
    rw [hx] at w1
    cases w1
    exact ⟨S2, hA2.push (w2.mono hA2.base.s0)⟩
theorem it_tup (xs : List β) (e : β → VP) (he : EV K Γ te (.dat (eT e xs))) : ITM K Γ (iTup K te) (.nx xs) e := fun g σ τ H Rk E hA hm =>
  he g σ τ H _ hA fun v H' ⟨S, h⟩ => by
    obtain ⟨a, vs, rfl, h2, h3⟩ := Hd.t h.top
    have hl : vs.length = xs.length := by rw [h3.len, List.length_map]
    refine ⟨a, rfl, ⟨vs, same_t h.base.sh h2⟩, hm (Itt K a) (fun H => SqT K H a vs) (YAt vs) S H' (by rw [← hl]; exact walk_tup) h.base.s0 h.base.fs ⟨S, h.pop.reS⟩ (fun S2 H2 B => same_t B.reS h2) fun i b x H1 H2 Γ' σ' τ' hb hy ⟨S2, hA2⟩ => ?_⟩
    obtain ⟨rfl, hx⟩ := hy
    obtain ⟨w, w1, w2⟩ := h3.get (show (xs.map e)[i]? = some (e b) by rw [List.getElem?_map, hb]; rfl)
    rw [hx] at w1
    cases w1
    exact ⟨S2, hA2.push (w2.mono hA2.base.s0)⟩
/-- an own list: it stands still while it is walked -/
theorem At.frzS {g : Gh} {σ : St} {H : Hp} {i : Nat} {oa : Option Addr} {ps : List VP} (h : At K g Γ σ [] H) (hg : Γ[i]? = some (some (.own oa (.lst ps)))) : At K g (Γ.set i (some (.dat (rL ps)))) σ [] H := by
  obtain ⟨S, h⟩ := h
  obtain ⟨a, e1, ow, h0⟩ := h.at0.take hg
  have h1 : At K g (Γ.set i none) σ [(.ref a, .own oa (.lst ps))] H := by
    refine ⟨S, h0.base, h0.len, h0.all, h0.ns, fun x hx k e => ?_, h0.nd⟩
    have : x = (V.ref a, Tm.own oa (.lst ps)) := by simpa using hx
    subst this
    cases e
  obtain ⟨S2, h2⟩ := h1.frz
  have hi : i < Γ.length := (List.getElem?_eq_some_iff.mp hg).1
  have h3 := h2.at0.put (i := i) (by rw [List.length_set]; exact hi) e1 (fun j z => by cases z) (List.getElem?_set_self hi)
  rw [List.set_set] at h3
  exact ⟨S2, h3.base, h3.len, h3.all, h3.ns, (fun x hx => nomatch hx), h3.nd⟩
theorem bj_frz {ρ lam α : Type} {X : Fx ρ} {u : TS} {m : O ρ lam α} {n : α → List (Option Tm)} {b c : lam → List (Option Tm)} {i : Nat} {oa : Option Addr} {ps : List VP} (hg : Γ[i]? = some (some (.own oa (.lst ps)))) (h : BJ K X (Γ.set i (some (.dat (rL ps)))) u m n b c) : BJ K X Γ u m n b c :=
  fun g σ H D hA hm => h g σ H D (hA.frzS hg) hm
/-- the place of an own list gets a name -/
theorem bj_pin {ρ lam α : Type} {X : Fx ρ} {u : TS} {m : O ρ lam α} {n : α → List (Option Tm)} {b c : lam → List (Option Tm)} {i : Nat} {oa : Option Addr} {cl : Cell} (hg : Γ[i]? = some (some (.own oa cl))) (h : ∀ a, BJ K X (Γ.set i (some (.own (some a) cl))) u m n b c) : BJ K X Γ u m n b c :=
  fun g σ H D ⟨S, hA⟩ hm => by
    obtain ⟨a, e1, ow, h0⟩ := hA.at0.take hg
    have hi : i < Γ.length := (List.getElem?_eq_some_iff.mp hg).1
    have h1 : At0 K g S (Γ.set i none) σ [(.ref a, .own (some a) cl)] H := ⟨h0.base, h0.len, fun x hx => by
      rcases List.mem_append.mp hx with hx | hx
      · exact h0.all x (List.mem_append_left _ hx)
      · have : x = (V.ref a, Tm.own (some a) cl) := by simpa using hx
        subst this
        obtain ⟨a', o, e, _, k⟩ := ow
        cases e
        exact ⟨a, o, rfl, fun b z => (Option.some.inj z).symm, k⟩, h0.ns, by
      have := h0.nd
      rw [addrs_append] at this ⊢
      exact this⟩
    have h3 := h1.put (i := i) (by rw [List.length_set]; exact hi) e1 (fun j z => by cases z) (List.getElem?_set_self hi)
    rw [List.set_set] at h3
    exact h a g σ H D ⟨S, h3.base, h3.len, h3.all, h3.ns, fun x hx => (by cases hx), h3.nd⟩ hm
/-- range(a, b) as a list -/
def rangeL (a b : Int) : List Int := (List.range (b - a).toNat).map fun i => a + (i : Nat)
theorem rangeL_len (a b : Int) : (rangeL a b).length = (b - a).toNat := by unfold rangeL; rw [List.length_map, List.length_range]
theorem rangeL_get {a b : Int} {i : Nat} {x : Int} (h : (rangeL a b)[i]? = some x) : x = a + (i : Nat) := by
  unfold rangeL at h
  rw [List.getElem?_map] at h
  cases e : (List.range (b - a).toNat)[i]? with
  | none => rw [e] at h; cases h
  | some j =>
    rw [e] at h
    obtain ⟨hj, ej⟩ := List.getElem?_eq_some_iff.mp e
    rw [List.getElem_range] at ej
    subst ej
    exact (Option.some.inj h).symm
@[irreducible] def rngR (a b : Int) : R (List Int) := gd (decide (-1000000000 ≤ a) && decide (a ≤ 1000000000) && decide (-1000000000 ≤ b) && decide (b ≤ 1000000000)) (rangeL a b)
theorem rngR_eq (a b : Int) : rngR a b = gd (decide (-1000000000 ≤ a) && decide (a ≤ 1000000000) && decide (-1000000000 ≤ b) && decide (b ≤ 1000000000)) (rangeL a b) := by unfold rngR; rfl
theorem rngR_gd {a b : Int} {N : List Int → Prop} {E : Er → Prop} (h : OutR (rngR a b) N E) : (decide (-1000000000 ≤ a) && decide (a ≤ 1000000000) && decide (-1000000000 ≤ b) && decide (b ≤ 1000000000)) = true ∧ N (rangeL a b) := by
  rw [rngR_eq] at h
  exact h.gd
theorem it_rng1 {b : Int} (he : EV K Γ tb (.dat (eI b))) : ITM K Γ (iRng1 (tCons tb tNil)) (rngR 0 b) eI := fun g σ τ H Rk E hA hm =>
  he g σ τ H _ hA fun v H' ⟨S, h⟩ => by
    obtain ⟨hc, k⟩ := rngR_gd hm
    simp only [Bool.and_eq_true, decide_eq_true_eq] at hc
    refine ⟨b, by rw [show v = V.int b from Hd.i h.top], by omega, by omega, k (Itr 0 b.toNat) (fun _ => True) (YFn fun i => .int (0 + i)) S H' (by rw [rangeL_len, Int.sub_zero]; exact walk_range) h.base.s0 h.base.fs ⟨S, h.pop.reS⟩ (fun _ _ _ => True.intro) fun i x v H1 H2 Γ' σ' τ' hx hy hA2 => ?_⟩
    obtain ⟨rfl, rfl⟩ := hy
    exact hA2.scal fun _ => by rw [rangeL_get hx]; rfl
theorem it_rng2 {a b : Int} (h1 : EV K Γ ta (.dat (eI a))) (h2 : EV K Γ tb (.dat (eI b))) : ITM K Γ (iRng2 (tCons ta (tCons tb tNil))) (rngR a b) eI := fun g σ τ H Rk E hA hm =>
  h1 g σ τ H _ hA fun v H1 hA1 => h2 g σ _ H1 _ hA1 fun w H' ⟨S, h⟩ => by
    obtain ⟨hc, k⟩ := rngR_gd hm
    simp only [Bool.and_eq_true, decide_eq_true_eq] at hc
    refine ⟨a, b, by rw [show w = V.int b from Hd.i h.top, show v = V.int a from Hd.i h.pop.top], by omega, k (Itr a (b - a).toNat) (fun _ => True) (YFn fun i => .int (a + i)) S H' (by rw [rangeL_len]; exact walk_range) h.base.s0 h.base.fs ⟨S, h.pop.pop.reS⟩ (fun _ _ _ => True.intro) fun i x v H1 H2 Γ' σ' τ' hx hy hA2 => ?_⟩
    obtain ⟨rfl, rfl⟩ := hy
    exact hA2.scal fun _ => by rw [rangeL_get hx]; rfl
end

/-! ### for -/
section
variable {K : PySem.W.Frag} {ρ lam α β sT : Type} {X : Fx ρ} {Γ : List (Option Tm)} {n : α → List (Option Tm)} {b c : lam → List (Option Tm)} {t u tb : TS} {te : TE} {tc : TT} {wi : TI} {tg : TG} {e : β → VP} {js : List Nat} {ps : β → List VP}
theorem forO_out {f : sT → β → O ρ sT sT} {x : β} {xs : List β} {s0 : sT} {N : sT → Prop} {T : ρ → Prop} {B C : lam → Prop} {E : Er → Prop} (h : Out (forO f (x :: xs) s0 : O ρ lam sT) N T B C E) :
    Out (f s0 x) (fun s' => Out (forO f xs s' : O ρ lam sT) N T B C E) T (fun s' => N s') (fun s' => Out (forO f xs s' : O ρ lam sT) N T B C E) E := by
  unfold forO at h
  cases e : f s0 x <;> rw [e] at h <;> exact h
theorem ErP.unS {EC : Str → Addr} {g : Gh} {S1 : Hp} {Gw : List (Option Tm)} {x : Er} {EW : St → XK} (h : ErP K EC g Gw x EW) (e : Same g.S0 S1) (f : ∀ b, g.F b ≠ none → g.S0 b = none → S1 b = none) : ErP K EC ⟨S1, g.F⟩ Gw x EW :=
  fun σ' H' S' d hA => h σ' H' S' d (hA.unS e f)
theorem At.unS {g : Gh} {S1 H : Hp} {σ : St} {τ : List (V × Tm)} (h : At K ⟨S1, g.F⟩ Γ σ τ H) (e : Same g.S0 S1) (f : ∀ b, g.F b ≠ none → g.S0 b = none → S1 b = none) : At K g Γ σ τ H := by
  obtain ⟨S, h⟩ := h
  exact ⟨S, h.unS e f⟩
theorem bj_for {m : R (List β)} {f : sT → β → O ρ sT sT} {s0 : sT} {k : sT → O ρ lam α} (Gl : sT → List (Option Tm)) (hi : ITM K Γ wi m e) (ht : ∀ b, TJ K tg (e b) js (ps b)) (hj : ∀ s, ∀ j ∈ js, j < (Gl s).length) (h0 : Le (Gl s0) Γ)
    (hb : ∀ s b, BJ K X (setG (Gl s) js (ps b)) tb (f s b) Gl Gl Gl) (hr : ∀ s, BJ K X (Gl s) u (k s) n b c) : BJ K X Γ (tSeq (tFor wi tg tb) u) (bindR m fun xs => (forO f xs s0).bind k) n b c := fun g σ H D hA hm => by
  show wi σ H _
  refine hi g σ [] H _ (ErW K g X) hA (hm.bindR.imp (fun xs q J Gd Y S1 H' w es ef hA' hG hY => ?_) fun _ q => q)
  have q2 := q.bind
  refine for_it w (fun i σ H => ∃ s, At K ⟨S1, g.F⟩ (Gl s) σ [] H ∧ Out (forO f (xs.drop i) s : O ρ lam sT) (fun s' => ∀ σ' H', At K ⟨S1, g.F⟩ (Gl s') σ' [] H' → u D σ' H') (RtW K ⟨S1, g.F⟩ X D.rt) (fun l => NxW K g b D.bk l) (fun l => NxW K g c D.ct l) (ErW K ⟨S1, g.F⟩ X))
    ⟨s0, hA'.weak h0, ?_⟩ (fun i σ H _ ⟨s, ⟨S2, h2⟩, _⟩ => hG S2 H h2.base) ?_ ?_
  · rw [List.drop_zero]
    refine q2.imp (fun s' q3 σ' H' h' => hr s' g σ' H' D (h'.unS es ef) q3) (fun r q3 v H' σ' h' => q3 v H' σ' (h'.unS es ef)) (fun _ q3 => q3) (fun _ q3 => q3) (fun x q3 => q3.unS es ef)
  · rintro i x σ H H' hi ⟨s, hA2, q3⟩ hy
    have hx : xs[i]? = some xs[i] := List.getElem?_eq_getElem hi
    rw [List.drop_eq_getElem_cons hi] at q3
    have q4 := forO_out q3
    refine (ht xs[i]).2 ⟨S1, g.F⟩ (Gl s) σ [] H' x _ (hj s) (fun y hy => (by cases hy)) (hY i _ x H H' _ _ _ hx hy hA2) fun vs H2 _ hA3 => ?_
    exact hb s xs[i] ⟨S1, g.F⟩ _ H2 _ hA3 (q4.imp (fun s' q5 σ' H' h' => ⟨s', h', q5⟩) (fun _ q5 => q5) (fun s' q5 σ' H' h' => q5 σ' H' h') (fun s' q5 σ' H' h' => ⟨s', h', q5⟩) fun _ q5 => q5)
  · rintro σ H ⟨s, hA2, q3⟩
    rw [List.drop_length] at q3
    exact q3 σ H hA2
/-! ### while -/
theorem whileO_out {cn : sT → R (sT × Bool)} {f : sT → O ρ sT sT} {fu : Nat} {s0 : sT} {N : sT → Prop} {T : ρ → Prop} {B C : lam → Prop} {E : Er → Prop} (h : Out (whileO cn f (fu + 1) s0 : O ρ lam sT) N T B C E) :
    OutR (cn s0) (fun sb => (sb.2 = true → Out (f sb.1) (fun s' => Out (whileO cn f fu s' : O ρ lam sT) N T B C E) T (fun s' => N s') (fun s' => Out (whileO cn f fu s' : O ρ lam sT) N T B C E) E) ∧ (sb.2 = false → N sb.1)) E := by
  unfold whileO at h
  refine h.bindR.imp (fun sb q => ⟨fun hb => ?_, fun hb => ?_⟩) fun _ q => q
  · rw [if_pos hb] at q
    cases e : f sb.1 <;> rw [e] at q <;> exact q
  · rw [if_neg (by rw [hb]; exact Bool.false_ne_true)] at q
    exact q
theorem bj_while {cn : sT → R (sT × Bool)} {f : sT → O ρ sT sT} {fu : Nat} {s0 : sT} {k : sT → O ρ lam α} (Gl : sT → List (Option Tm)) (h0 : Le (Gl s0) Γ)
    (hc : ∀ s g σ H (Q : Bool → Hp → Prop), At K g (Gl s) σ [] H → OutR (cn s) (fun sb => ∀ H', At K g (Gl sb.1) σ [] H' → Q sb.2 H') (ErW K g X) → tc σ H Q)
    (hb : ∀ s, BJ K X (Gl s) tb (f s) Gl Gl Gl) (hr : ∀ s, BJ K X (Gl s) u (k s) n b c) : BJ K X Γ (tSeq (tWhile tc tb) u) ((whileO cn f fu s0).bind k) n b c := fun g σ H D hA hm => by
  have q2 := hm.bind
  show ∃ W : Nat → St → Hp → Prop, _
  refine ⟨fun m σ H => ∃ s, At K g (Gl s) σ [] H ∧ Out (whileO cn f m s : O ρ lam sT) (fun s' => ∀ σ' H', At K g (Gl s') σ' [] H' → u D σ' H') (RtW K g X D.rt) (fun l => NxW K g b D.bk l) (fun l => NxW K g c D.ct l) (ErW K g X),
    ⟨fu, s0, hA.weak h0, q2.imp (fun s' q3 σ' H' h' => hr s' g σ' H' D h' q3) (fun _ q => q) (fun _ q => q) (fun _ q => q) fun _ q => q⟩, ?_⟩
  rintro m σ H ⟨s, hA2, q3⟩
  cases m with
  | zero => exact q3.elim
  | succ m =>
    refine hc s g σ H _ hA2 ((whileO_out q3).imp (fun sb q4 H' h' => ?_) fun _ q => q)
    cases e : sb.2 with
    | true =>
      rw [if_pos rfl]
      refine ⟨fun σ' H' => ∃ s', At K g (Gl s') σ' [] H' ∧ Out (whileO cn f m s' : O ρ lam sT) (fun s' => ∀ σ' H', At K g (Gl s') σ' [] H' → u D σ' H') (RtW K g X D.rt) (fun l => NxW K g b D.bk l) (fun l => NxW K g c D.ct l) (ErW K g X), fun σ' H' z => ⟨m, Nat.lt_succ_self m, z⟩, ?_⟩
      exact hb sb.1 g σ H' _ h' ((q4.1 e).imp (fun s' q5 σ' H' h' => ⟨s', h', q5⟩) (fun _ q5 => q5) (fun s' q5 σ' H' h' => q5 σ' H' h') (fun s' q5 σ' H' h' => ⟨s', h', q5⟩) fun _ q5 => q5)
    | false =>
      rw [if_neg Bool.false_ne_true]
      exact q4.2 e σ H' h'
/-- a test that is plain -/
theorem cj_pure {Gl : sT → List (Option Tm)} {cc : sT → Bool} (h : ∀ s, EVB K (Gl s) tc (cc s)) : ∀ s g σ H (Q : Bool → Hp → Prop), At K g (Gl s) σ [] H → OutR (.nx (s, cc s) : R (sT × Bool)) (fun sb => ∀ H', At K g (Gl sb.1) σ [] H' → Q sb.2 H') (ErW K g X) → tc σ H Q :=
  fun s g σ H Q hA hm => h s g σ [] H Q hA fun H' h' => hm H' h'
end

/-! ### comprehensions -/
section
variable {K : PySem.W.Frag} {β γ sT : Type} {wi : TI} {tg : TG} {tt : TT} {te : TE} {e : β → VP} {js vs : List Nat} {ps : β → List VP} {enc : γ → VP}
/-- what an item gives -/
def LJ (K : PySem.W.Frag) (Gl : sT → List (Option Tm)) (js : List Nat) (ps : β → List VP) (enc : γ → VP) (tt : TT) (te : TE) (f : sT → β → R (sT × Option γ)) : Prop :=
  ∀ s b g σ τ H (Q : Option V → Hp → Prop), At K g (setG (Gl s) js (ps b)) σ τ H →
    OutR (f s b) (fun r => match r.2 with
      | none => ∀ H', At K g (setG (Gl r.1) js (ps b)) σ τ H' → Q none H'
      | some y => ∀ v H', At K g (setG (Gl r.1) js (ps b)) σ ((v, .dat (enc y)) :: τ) H' → Q (some v) H') (fun _ => False) →
    tt σ H fun b H3 => if b = true then te σ H3 fun y H4 => Q (some y) H4 else Q none H3
theorem lj_pure {Gl : sT → List (Option Tm)} {h : sT → β → γ} (he : ∀ s b, EV K (setG (Gl s) js (ps b)) te (.dat (enc (h s b)))) : LJ K Gl js ps enc tYes te (fun s b => .nx (s, some (h s b))) := fun s b g σ τ H Q hA hm => by
  show (if true = true then te σ H (fun y H4 => Q (some y) H4) else Q none H)
  rw [if_pos rfl]
  exact he s b g σ τ H _ hA fun v H' h' => hm v H' h'
theorem lj_pureIf {Gl : sT → List (Option Tm)} {cc : sT → β → Bool} {h : sT → β → γ} (hc : ∀ s b, EVB K (setG (Gl s) js (ps b)) tt (cc s b)) (he : ∀ s b, EV K (setG (Gl s) js (ps b)) te (.dat (enc (h s b)))) : LJ K Gl js ps enc tt te (fun s b => .nx (s, if cc s b then some (h s b) else none)) := fun s b g σ τ H Q hA hm => by
  refine hc s b g σ τ H _ hA fun H' h' => ?_
  dsimp only at hm
  cases e : cc s b with
  | true =>
    rw [if_pos rfl]
    rw [e] at hm
    exact he s b g σ τ H' _ h' fun v H2 h2 => hm v H2 h2
  | false =>
    rw [if_neg Bool.false_ne_true]
    rw [e] at hm
    exact hm H' h'
theorem wipe_get {σ : St} : ∀ {vs : List Nat} {i : Nat}, i ∉ vs → (wipe σ vs)[i]? = σ[i]?
  | [], _, _ => rfl
  | v :: vs, i, h => by
    unfold wipe
    rw [List.getElem?_set_ne (by intro z; exact h (by simp [z]))]
    exact wipe_get fun z => h (List.mem_cons_of_mem _ z)
theorem wipe_hit {σ : St} : ∀ {vs : List Nat} {i : Nat}, i ∈ vs → (wipe σ vs)[i]? = if i < σ.length then some none else none
  | v :: vs, i, h => by
    unfold wipe
    by_cases hv : v = i
    · subst hv
      by_cases hl : v < σ.length
      · rw [List.getElem?_set_self (by rw [wipe_length]; exact hl), if_pos hl]
      · rw [if_neg hl, List.getElem?_eq_none (by rw [List.length_set, wipe_length]; omega)]
    · rw [List.getElem?_set_ne hv]
      exact wipe_hit (by
        rcases List.mem_cons.mp h with h | h
        · exact absurd h.symm hv
        · exact h)
theorem setS_get : ∀ {js : List Nat} {ws : List V} {σ : St} {i : Nat}, i ∉ js → (setS σ js ws)[i]? = σ[i]?
  | [], _, _, _, _ => rfl
  | _ :: _, [], _, _, _ => rfl
  | j :: js, w :: ws, σ, i, h => by
    show (setS (σ.set j (some w)) js ws)[i]? = _
    rw [setS_get fun z => h (List.mem_cons_of_mem _ z), List.getElem?_set_ne (by intro z; exact h (by simp [z]))]
theorem setS_len : ∀ {js : List Nat} {ws : List V} {σ : St}, (setS σ js ws).length = σ.length
  | [], _, _ => rfl
  | _ :: _, [], _ => rfl
  | j :: js, w :: ws, σ => by
    show (setS (σ.set j (some w)) js ws).length = _
    rw [setS_len, List.length_set]
theorem wipe_set {σ : St} {js vs : List Nat} {ws : List V} (h : ∀ j ∈ js, j ∈ vs) : wipe (setS (wipe σ vs) js ws) vs = wipe σ vs := by
  apply List.ext_getElem?
  intro i
  by_cases hi : i ∈ vs
  · rw [wipe_hit hi, wipe_hit hi, setS_len, wipe_length]
  · rw [wipe_get hi, setS_get (fun z => hi (h i z)), wipe_get hi]
theorem setG_get : ∀ {js : List Nat} {qs : List VP} {G : List (Option Tm)} {i : Nat}, i ∉ js → (setG G js qs)[i]? = G[i]?
  | [], _, _, _, _ => rfl
  | _ :: _, [], _, _, _ => rfl
  | j :: js, w :: ws, σ, i, h => by
    show (setG (σ.set j (some (.dat w))) js ws)[i]? = _
    rw [setG_get fun z => h (List.mem_cons_of_mem _ z), List.getElem?_set_ne (by intro z; exact h (by simp [z]))]
theorem setG_comm {x : Option Tm} : ∀ {js : List Nat} {qs : List VP} {G : List (Option Tm)} {j : Nat}, j ∉ js → setG (G.set j x) js qs = (setG G js qs).set j x
  | [], _, _, _, _ => rfl
  | _ :: _, [], _, _, _ => rfl
  | i :: js, q :: qs, G, j, h => by
    show setG ((G.set j x).set i (some (.dat q))) js qs = (setG (G.set i (some (.dat q))) js qs).set j x
    rw [List.set_comm _ _ (by intro z; exact h (by simp [z])), setG_comm fun z => h (List.mem_cons_of_mem _ z)]
theorem forget {g : Gh} {S H : Hp} {σ : St} {τ : List (V × Tm)} : ∀ {js : List Nat} {qs : List VP} {G : List (Option Tm)}, js.Nodup → (∀ j ∈ js, G[j]? = some none) → AtS K g S (setG G js qs) σ τ H → AtS K g S G σ τ H
  | [], _, _, _, _, h => h
  | _ :: _, [], _, _, _, h => h
  | j :: js, q :: qs, G, nd, hn, h => by
    obtain ⟨n1, n2⟩ := List.nodup_cons.mp nd
    have h' : AtS K g S (setG (G.set j (some (.dat q))) js qs) σ τ H := h
    have hj := hn j List.mem_cons_self
    have hl := (List.getElem?_eq_some_iff.mp hj).1
    have h2 : AtS K g S ((setG (G.set j (some (.dat q))) js qs).set j none) σ τ H := h'.drop1 (p := q) (by rw [setG_get n1, List.getElem?_set_self hl])
    rw [setG_comm n1, List.set_set] at h2
    have e : (setG G js qs).set j none = setG G js qs := by
      apply List.ext_getElem?
      intro i
      by_cases hi : j = i
      · subst hi; rw [List.getElem?_set_self (by rw [setG_len]; exact hl), setG_get n1, hj]
      · rw [List.getElem?_set_ne hi]
    rw [e] at h2
    exact forget n2 (fun i hi => hn i (List.mem_cons_of_mem _ hi)) h2
theorem lcR_out {f : sT → β → R (sT × Option γ)} {x : β} {xs : List β} {s0 : sT} {acc : List γ} {N : sT × List γ → Prop} {E : Er → Prop} (h : OutR (lcR f (x :: xs) s0 acc) N E) :
    OutR (f s0 x) (fun r => match r.2 with
      | none => OutR (lcR f xs r.1 acc) N E
      | some y => acc.length < 1000000 ∧ OutR (lcR f xs r.1 (acc ++ [y])) N E) (fun _ => False) := by
  unfold lcR at h
  cases e : f s0 x with
  | nx r =>
    rw [e] at h
    obtain ⟨s1, o⟩ := r
    cases o with
    | none => exact h
    | some y =>
      dsimp only at h
      by_cases hl : acc.length < 1000000
      · rw [if_pos hl] at h; exact ⟨hl, h⟩
      · rw [if_neg hl] at h; exact h.elim
  | rt r => exact r.elim
  | bk r => exact r.elim
  | ct r => exact r.elim
  | er x => rw [e] at h; exact h.elim
  | stuck => rw [e] at h; exact h.elim
theorem AtS.oaNone {g : Gh} {S H : Hp} {Γ : List (Option Tm)} {σ : St} {τ : List (V × Tm)} {v : V} {oa : Option Addr} {c : Cell} (h : AtS K g S Γ σ ((v, .own oa c) :: τ) H) : AtS K g S Γ σ ((v, .own none c) :: τ) H := by
  refine ⟨h.base, h.len, fun x hx => ?_, h.ns, fun x hx k e => ?_, ?_⟩
  · rcases List.mem_append.mp hx with hx | hx
    · exact h.all x (List.mem_append_left _ hx)
    · rcases List.mem_cons.mp hx with rfl | hx
      · obtain ⟨a, o, e, _, k⟩ := h.top
        exact ⟨a, o, e, fun b z => (nomatch z), k⟩
      · exact h.all x (List.mem_append_right _ (List.mem_cons_of_mem _ hx))
  · rcases List.mem_cons.mp hx with rfl | hx
    · cases e
    · exact h.al x (List.mem_cons_of_mem _ hx) k e
  · have := h.nd
    rw [addrs_append] at this ⊢
    cases v <;> exact this
/-- [.. for .. in .. if ..] -/
theorem f_lc {m : R (List β)} {f : sT → β → R (sT × Option γ)} (Gl : sT → List (Option Tm)) (s0 : sT) {g : Gh} {σ : St} {τ : List (V × Tm)} {H : Hp} {Q : VK} {E : Er → Prop} (hi : ITM K (Gl s0) wi m e) (ht : ∀ b, TJ K tg (e b) js (ps b)) (nd : js.Nodup)
    (hn : ∀ s, ∀ j ∈ js, (Gl s)[j]? = some none) (hv : ∀ s, ∀ j ∈ vs, (Gl s)[j]? = some none) (hsub : ∀ j ∈ js, j ∈ vs) (hl : LJ K Gl js ps enc tt te f) (hA : At K g (Gl s0) σ τ H)
    (hm : OutR (bindR m fun xs => lcR f xs s0 []) (fun r => ∀ v H', At K g (Gl r.1) σ ((v, oL enc r.2) :: τ) H' → Q v H') E) : tLc wi tg tt te vs σ H Q := by
  have hm2 : OutR m (fun xs => OutR (lcR f xs s0 []) (fun r => ∀ v H', At K g (Gl r.1) σ ((v, oL enc r.2) :: τ) H' → Q v H') E) E := by
    cases m <;> first | exact hm | (rename_i z; exact z.elim)
  show wi σ H _
  refine hi g σ τ H _ E hA (hm2.imp (fun xs q J Gd Y S1 H' w es ef hA' hG hY D hD => ?_) fun _ q => q)
  refine lc_it w (fun i H => ∃ s acc, At K ⟨S1, g.F⟩ (Gl s) σ ((.ref D, .own (some D) (.lst (acc.map enc))) :: τ) H ∧ OutR (lcR f (xs.drop i) s acc) (fun r => ∀ v H', At K g (Gl r.1) σ ((v, oL enc r.2) :: τ) H' → Q v H') E)
    ⟨s0, [], ?_, by rw [List.drop_zero]; exact q⟩ (fun i H _ ⟨s, acc, ⟨S2, h2⟩, _⟩ => hG S2 H h2.base) ?_ ?_
  · obtain ⟨S, h⟩ := hA'
    exact ⟨S, h.freshA (fun b z => (Option.some.inj z).symm) hD ⟨[], rfl, .nil⟩⟩
  · rintro i x H H' hi ⟨s, acc, hA2, q3⟩ hy
    have hx : xs[i]? = some xs[i] := List.getElem?_eq_getElem hi
    rw [List.drop_eq_getElem_cons hi] at q3
    have q4 := lcR_out q3
    have hA3 : At K ⟨S1, g.F⟩ (Gl s) (wipe σ vs) ((.ref D, .own (some D) (.lst (acc.map enc))) :: τ) H := by
      obtain ⟨S, h⟩ := hA2
      exact ⟨S, h.slots (fun j t ej => wipe_get fun z => by rw [hv s j z] at ej; cases ej) (by rw [wipe_length]; exact h.len)⟩
    have hal : ∀ y ∈ (V.ref D, Tm.own (some D) (.lst (acc.map enc))) :: τ, ∀ k, y.2 = Tm.als k → k ∉ js := fun y hy k ek hk => by
      obtain ⟨S, h⟩ := hA2
      obtain ⟨oa, c, q⟩ := h.al y hy k ek
      rw [hn s k hk] at q; cases q
    refine (ht xs[i]).2 ⟨S1, g.F⟩ (Gl s) (wipe σ vs) _ H' x _ (fun j hj => (List.getElem?_eq_some_iff.mp (hn s j hj)).1) hal (hY i _ x H H' _ _ _ hx hy hA3) fun ws H2 _ hA4 => ⟨wipe_set hsub, ?_⟩
    -- back to the slots of the def
    have back : ∀ {s' : sT} {τ' : List (V × Tm)} {H3 : Hp}, At K ⟨S1, g.F⟩ (setG (Gl s') js (ps xs[i])) (setS (wipe σ vs) js ws) τ' H3 → At K ⟨S1, g.F⟩ (Gl s') σ τ' H3 := fun {s' τ' H3} ⟨S, h⟩ => by
      have h5 := forget nd (hn s') h
      have hlen : (Gl s').length ≤ σ.length := by
        have := h5.len
        rw [setS_len, wipe_length] at this
        exact this
      exact ⟨S, h5.slots (fun j t ej => by
        have n1 : j ∉ js := fun z => by rw [hn s' j z] at ej; cases ej
        have n2 : j ∉ vs := fun z => by rw [hv s' j z] at ej; cases ej
        rw [setS_get n1, wipe_get n2]) hlen⟩
    have := hl s xs[i] ⟨S1, g.F⟩ (setS (wipe σ vs) js ws) _ H2 (fun o H4 => match o with
      | none => ∃ s acc, At K ⟨S1, g.F⟩ (Gl s) σ ((.ref D, .own (some D) (.lst (acc.map enc))) :: τ) H4 ∧ OutR (lcR f (xs.drop (i + 1)) s acc) (fun r => ∀ v H', At K g (Gl r.1) σ ((v, oL enc r.2) :: τ) H' → Q v H') E
      | some y => ∃ acc, H4 D = some (.lst acc) ∧ acc.length < sizeLine ∧ ∃ s acc', At K ⟨S1, g.F⟩ (Gl s) σ ((.ref D, .own (some D) (.lst (acc'.map enc))) :: τ) (upd H4 D (.lst (acc ++ [y]))) ∧ OutR (lcR f (xs.drop (i + 1)) s acc') (fun r => ∀ v H', At K g (Gl r.1) σ ((v, oL enc r.2) :: τ) H' → Q v H') E) hA4 (q4.imp (fun r q5 => ?_) fun _ q5 => q5)
    · exact this
    · obtain ⟨s1, o⟩ := r
      cases o with
      | none => exact fun H4 h4 => ⟨s1, acc, back h4, q5⟩
      | some y =>
        intro v H4 h4
        obtain ⟨q6, q7⟩ := q5
        obtain ⟨S, h5⟩ := back h4
        have hv5 : Hd K (enc y) v S := h5.top
        obtain ⟨a, o, e1, e2, _, _, e3, vs3, rfl, d3⟩ := h5.pop.top
        cases e1
        obtain ⟨o2, _, _, h6⟩ := h5.pop.writeT (c' := .lst ((acc ++ [y]).map enc)) (o' := .lst (vs3 ++ [v])) ⟨_, rfl, by rw [List.map_append]; exact d3.append (.cons hv5 .nil)⟩
        exact ⟨vs3, e3, by rw [d3.len, List.length_map]; exact lt_line q6, s1, acc ++ [y], ⟨S, h6⟩, q7⟩
  · rintro H ⟨s, acc, hA2, q3⟩
    rw [List.drop_length] at q3
    obtain ⟨S, h⟩ := hA2
    exact q3 (.ref D) H (At.unS ⟨S, h.oaNone⟩ es ef)
end

/-! ### a def's body -/
section
open PyProof.Rows (envOfC)
variable {P : Program} {w : World} {K : PySem.W.Frag} {mg : Str → Option Value} {base : Heap} {EC : Str → Addr} {α ρ : Type} {n : Nat} {pre : α → List Addr → List (Option Tm)} {post : ρ → List Addr → List (Option Tm)} {ret : ρ → Tm}
abbrev W0 (E : XK) : WX := fun cls d _ H => E cls d H
theorem start_at {g : Gh} {Γ : List (Option Tm)} {N : List Str} {vs : List V} {H : Hp} (h : At K g Γ (vs.map some) [] H) (hl : vs.length = Γ.length) : At K g (Γ ++ List.replicate (N.length - vs.length) none) (L2.start N vs) [] H := by
  obtain ⟨S, h⟩ := h
  have e : ∀ (Γ : List (Option Tm)) (σ : St) (k : Nat), Γ.length = σ.length → pack (σ ++ List.replicate k none) (Γ ++ List.replicate k none) = pack σ Γ := by
    intro Γ
    induction Γ with
    | nil =>
      intro σ k hl
      cases σ with
      | cons _ _ => simp at hl
      | nil =>
        induction k with
        | zero => rfl
        | succ k ih => simpa [pack, List.replicate_succ] using ih
    | cons x Γ ih =>
      intro σ k hl
      cases σ with
      | nil => simp at hl
      | cons y σ =>
        have := ih σ k (by simpa using hl)
        cases x with
        | none => simpa [pack] using this
        | some t => cases y <;> simpa [pack] using this
  have ep := e Γ (vs.map some) (N.length - vs.length) (by simpa using hl.symm)
  unfold L2.start
  refine ⟨S, h.base, by simp [hl], fun x hx => ?_, by rw [ep]; exact h.ns, (fun x hx => nomatch hx), by rw [ep]; exact h.nd⟩
  rw [ep] at hx
  have q := h.all x hx
  obtain ⟨v', t'⟩ := x
  cases t' with
  | als j =>
    rw [List.append_nil] at hx
    exact absurd rfl (h.ns _ hx j)
  | dat _ => exact q
  | own _ _ => exact q
  | bad => exact q
/-- a def whose mirror always hands back -/
theorem fn_ok {x qual : Str} {st : Stmt} {f : Addr} {fd : FuncData} {N pn : List Str} {k : Nat} (F : Fun K x qual st f fd) (S : FnScope N pn (defScope st)) (hn : pn.length = n) (mb : α → O ρ Empty Empty)
    (hbody : ∀ (cdv : Value) (A : Around) (outer : List Env) (s : Shared) (H : Hp) (E : XK), Room k (A.deeper (envOfC qual (defScope st) s.heap.objs.size f cdv)) →
      ∃ ts, PSs (cxOf (L2.CX P w) P w K mg base N qual (defScope st) f cdv A outer s H E) (defBody st) ts ∧
        ∀ (arg : α) (as : List Addr), (pre arg as).length = n → BJ K (⟨EC, fun r => post r as, ret, [], WE (W0 E)⟩ : Fx ρ) (pre arg as ++ List.replicate (N.length - n) none) ts (mb arg) (fun _ => []) (fun _ => []) (fun _ => [])) :
    FnOk P w K mg base (L2.CX P w) (k + 1) f fd pn (Spec K EC n pre (fun a => fin (mb a) fun z => z.elim) post ret) := by
  refine F.okX S (fun vs H Q E h => ?_) fun cdv A outer s H vs Q E hr h => ?_
  · rw [h.1, hn]
  · obtain ⟨ts, h1, h2⟩ := hbody cdv A outer s H E hr
    obtain ⟨hl, arg, as, g, hp, hA, hm⟩ := h
    refine ⟨ts, h1, h2 arg as hp g _ H _ ?_ ?_⟩
    · have := start_at (N := N) hA (by rw [hl, hp])
      rw [hl] at this
      exact this
    · dsimp only at hm
      cases e : mb arg with
      | nx a => exact a.elim
      | rt r => rw [e] at hm; exact fun v H' σ' h' => hm v H' σ' h'
      | bk l => exact l.elim
      | ct l => exact l.elim
      | er x => rw [e] at hm; exact hm
      | stuck => rw [e] at hm; exact hm.elim
/-- a def that may come to its end -/
theorem fn_okN {x qual : Str} {st : Stmt} {f : Addr} {fd : FuncData} {N pn : List Str} {k : Nat} (F : Fun K x qual st f fd) (S : FnScope N pn (defScope st)) (hn : pn.length = n) (mb : α → O ρ Empty ρ) (hN : ∀ r, ret r = .dat eN)
    (hbody : ∀ (cdv : Value) (A : Around) (outer : List Env) (s : Shared) (H : Hp) (E : XK), Room k (A.deeper (envOfC qual (defScope st) s.heap.objs.size f cdv)) →
      ∃ ts, PSs (cxOf (L2.CX P w) P w K mg base N qual (defScope st) f cdv A outer s H E) (defBody st) ts ∧
        ∀ (arg : α) (as : List Addr), (pre arg as).length = n → BJ K (⟨EC, fun r => post r as, ret, [], WE (W0 E)⟩ : Fx ρ) (pre arg as ++ List.replicate (N.length - n) none) ts (mb arg) (fun r => post r as) (fun _ => []) (fun _ => [])) :
    FnOk P w K mg base (L2.CX P w) (k + 1) f fd pn (Spec K EC n pre (fun a => fin (mb a) .nx) post ret) := by
  refine F.okX S (fun vs H Q E h => ?_) fun cdv A outer s H vs Q E hr h => ?_
  · rw [h.1, hn]
  · obtain ⟨ts, h1, h2⟩ := hbody cdv A outer s H E hr
    obtain ⟨hl, arg, as, g, hp, hA, hm⟩ := h
    refine ⟨ts, h1, h2 arg as hp g _ H _ ?_ ?_⟩
    · have := start_at (N := N) hA (by rw [hl, hp])
      rw [hl] at this
      exact this
    · dsimp only at hm
      cases e : mb arg with
      | nx r => rw [e] at hm; exact fun σ' H' h' => hm .non H' σ' (by rw [hN r]; exact h'.scal fun _ => rfl)
      | rt r => rw [e] at hm; exact fun v H' σ' h' => hm v H' σ' h'
      | bk l => exact l.elim
      | ct l => exact l.elim
      | er x => rw [e] at hm; exact hm
      | stuck => rw [e] at hm; exact hm.elim
end
end Gv

set_option Elab.async false
set_option linter.all false
set_option maxRecDepth 100000
set_option maxHeartbeats 2000000
/-! Gv: errors -/
namespace Gv
open PySem L2

/-! ### several clauses, with names or without -/
structure Hn where
  c : Value
  i : Option Nat
  ts : Addr → Value → Option Addr → TS
def goN (i : Option Nat) (P : St → Hp → Prop) : St → Hp → Prop := match i with
  | none => P
  | some j => fun σ H => P (σ.set j none) H
def setN (i : Option Nat) (σ : St) (a : Addr) : St := match i with
  | none => σ
  | some j => σ.set j (some (.ref a))
def endN (i : Option Nat) (D : Ends) : Ends := ⟨goN i D.nx, D.rt, goN i D.bk, goN i D.ct⟩
def wHs (K : PySem.W.Frag) (Wout : WX) (D : Ends) : List Hn → WX
  | [] => Wout
  | h :: r => fun cls d σ H => ∃ b, PySem.W.exmOne K cls h.c = some b ∧ (b = true → ∀ a, H a = none → h.ts a cls d (endN h.i D) (setN h.i σ a) H) ∧ (b = false → wHs K Wout D r cls d σ H)
/-- a try's reading -/
def tTry (K : PySem.W.Frag) (Wout : WX) (l : List Hn) (tb : WX → TS) : TS := fun D σ H => tb (wHs K Wout D l) D σ H
inductive HsOk (X : Cx) : List ExceptHandler → List Hn → Prop
  | nil : HsOk X [] []
  | plain {x : Str} {c : Value} {ts : Addr → Value → Option Addr → TS} {b0 : Stmt} {suite : List Stmt} {np pos' : Pos} {hds : List ExceptHandler} {l : List Hn} (hc : Names X x c)
      (hsu : ∀ (a : Addr) (oe : Obj) (cls : Value) (d : Option Addr) (pn : List (Addr × Obj)), Zc cls d oe → (∃ vs, oe.data = .fields vs) → PSs (X.suite a ((a, oe) :: pn)) (b0 :: suite) (ts a cls d)) (r : HsOk X hds l) :
      HsOk X (.ExceptHandler (some (.Name x np)) none (b0 :: suite) pos' :: hds) (⟨c, none, ts⟩ :: l)
  | named {x n : Str} {i : Nat} {c : Value} {ts : Addr → Value → Option Addr → TS} {b0 : Stmt} {suite : List Stmt} {np pos' : Pos} {hds : List ExceptHandler} {l : List Hn} (hc : Names X x c) (hi : X.N[i]? = some n) (hln : X.env.kindOf n = some .local)
      (hsu : ∀ (a : Addr) (oe : Obj) (cls : Value) (d : Option Addr) (pn : List (Addr × Obj)), Zc cls d oe → (∃ vs, oe.data = .fields vs) → PSs (X.suite a ((a, oe) :: pn)) (b0 :: suite) (ts a cls d)) (r : HsOk X hds l) :
      HsOk X (.ExceptHandler (some (.Name x np)) (some n) (b0 :: suite) pos' :: hds) (⟨c, some i, ts⟩ :: l)
section
variable {X : Cx} {body : List Stmt} {h₀ : ExceptHandler} {hds : List ExceptHandler} {l : List Hn} {pos : Pos} {tb : WX → TS} {Wout : WX}
theorem ps_try (hs : X.stack = X.env :: X.outer) (hf : X.env.frame = some X.env.locals) (hN : X.N.Nodup) (tk : Takes X Wout)
    (hb : ∀ (W : WX) (pn : List (Addr × Obj)) (xe : Value → Shared → Prop), Takes (X.tr pn xe) W → PassesOwn (model X.prog X.w) X.A X.env xe → PSs (X.tr pn xe) body (tb W))
    (hh : HsOk X (h₀ :: hds) l) : PS X (.Try body (h₀ :: hds) [] [] pos) (tTry X.K Wout l tb) := by
  refine ⟨fun pins s σ H D I hw => ?_⟩
  have ok := I.ok
  have frs0 : X.A.frames = some (X.env :: X.outer) := by rw [ok.frames, hs]
  refine wpAny_Try_except ?_
  have bodyOk := (hb (wHs X.K Wout D l) (X.pn ++ pins)
    (fun e s1 => wpAny (model X.prog X.w) X.A (noteFrame e X.env) (fun _ s2 => wpAny (model X.prog X.w) X.A (setFlight e none)
      (fun _ s3 => wpAny (model X.prog X.w) X.A (handleBy e X.env (h₀ :: hds)) (SP X pins D) X.xe s3) X.xe s2) X.xe s1)
    ?caught PassesOwn.looking).run [] s σ H D (I.toTry _) hw
  case caught =>
    intro u s' xx
    obtain ⟨a, B, sI, pins', σ', H', cls, d, eu, J', nb, up, sky, na, os, ag, w⟩ := xx
    subst eu
    have J : Inv X pins σ' H' sI := J'.ofTry ok
    have sky2 : Sky B (X.env :: X.outer) a (Zc cls d) X.env.locals s'.heap := hs ▸ sky
    show wpAny (model X.prog X.w) X.A (noteFrame (.ref a) X.env) _ _ _
    refine Sky.land Zc.steady frs0 hf sky2 fun g3 fl3 up3 => ?_
    have J3 : Inv X pins σ' H' { s' with heap := g3 } := J.landed nb fl3.1 (up.trans up3) os ag
    obtain ⟨o3, v3, at3, z3, dat3⟩ := fl3.there
    have out : a ∉ frs (X.env :: X.outer) := fun hm => by
      obtain ⟨_, o', e', hnf⟩ := fl3.2.2.1.mem hm
      rw [at3] at e'
      cases e'
      exact hnf _ dat3
    have offL : a ≠ X.env.locals := fun z => out (List.mem_filterMap.mpr ⟨X.env, List.mem_cons_self, by rw [hf, z]⟩)
    have offF : a ∉ X.fs := fun hm => by
      obtain ⟨e, he, q⟩ := List.mem_filterMap.mp hm
      exact out (List.mem_filterMap.mpr ⟨e, List.mem_cons_of_mem _ he, q⟩)
    have S3 := J3.suite at3 dat3 na offL offF
    -- a clause's class is asked
    have asked : ∀ {x : Str} {np : Pos} {c : Value} {Q E : Value → Shared → Prop}, Names X x c → Q c { s' with heap := g3 } →
        wpAny (model X.prog X.w) (X.A.mark (some (.ref a))) (eval (.Name x np) X.env) Q E { s' with heap := g3 } := fun {x np c Q E} hc q => by
      obtain ⟨hg, hdbg, hm | ⟨hm, hv, hnn⟩⟩ := hc
      · exact ld_glob (X := X.suite a ((a, o3) :: (X.pn ++ pins))) S3 hg hm q hdbg
      · exact ld_blt (X := X.suite a ((a, o3) :: (X.pn ++ pins))) S3 hg hm hv q hnn hdbg
    have look : PySem.W.Looks (model X.prog X.w) g3 (typeOf (.ref a)) cls := fun A Q E s k q => wpAny_typeOf_ref (k _ _ at3) (by rw [z3.1]; exact q)
    have go : ∀ {hd : List ExceptHandler} {l' : List Hn}, HsOk X hd l' → wHs X.K Wout D l' cls d σ' H' → wpAny (model X.prog X.w) X.A (handleBy (.ref a) X.env hd) (SP X pins D) X.xe { s' with heap := g3 } := by
      intro hd l' hk
      induction hk with
      | nil =>
        intro w
        refine wpAny_handleBy_nil ?_
        obtain ⟨k1, k2, k3, oe, vs, T, oT, ts', he, hz, hd, h1, hr⟩ := id fl3
        unfold PySem.passOn
        refine wpAny_bind (wpAny_field he hd h1 ?_)
        rw [if_neg (show ¬ ((Value.ref T == Value.none) = true) from by simp)]
        have fly : wpAny (model X.prog X.w) X.A (setFlight (.ref a) X.env.frame)
            (fun _ s4 => wpAny (model X.prog X.w) X.A (throw (.ref a) : Sem Flow) (SP X pins D) X.xe s4) X.xe { s' with heap := g3 } := by
          rw [hf]
          refine HandSPX.setFlight_upZ fl3 fun g4 hh4 up4 => wpAny_throw (tk _ _ ?_)
          refine ⟨a, B, sI, pins, σ', H', cls, d, rfl, J, nb, (up.trans up3).trans up4, .inr (.inr ?_), na, os, ag, w⟩
          rw [hs]
          exact hh4
        first
          | exact wpAny_bind (wpAny_pure (wpAny_bind fly))
          | exact wpAny_bind fly
      | plain hc hsu r ih =>
        intro w
        obtain ⟨b, hb1, hyes, hno⟩ := w
        refine wpAny_handleBy_cons (codeAny_handlers_test ?_) (by intro q; cases q)
        refine asked hc ((PySem.W.exm_one (M := model X.prog X.w) J3.kIn look hb1).here ?_)
        cases b with
        | false =>
          show wpAny _ X.A (handleBy (.ref a) X.env _) _ _ _
          exact ih (hno rfl)
        | true =>
          refine codeAny_handlers_suite (HandSPX.lands_againZ fl3 fun g4 fl4 up4 => ?_)
          have J4 : Inv X pins σ' H' { s' with heap := g4 } := J.landed nb fl4.1 ((up.trans up3).trans up4) os ag
          obtain ⟨o4, v4, at4, z4, dat4⟩ := fl4.there
          have S4 := J4.suite at4 dat4 na offL offF
          refine wpAny_mono ((hsu a o4 cls d (X.pn ++ pins) z4 ⟨_, dat4⟩).run [] _ _ H' _ S4 (hyes rfl a na)) (fun f s6 hsp => ?_) (fun _ _ z => False.elim z)
          cases f with
          | next => obtain ⟨p, q, S6, q6⟩ := hsp; exact ⟨p, q, S6.unsuite ok, q6⟩
          | brk => obtain ⟨p, q, S6, q6⟩ := hsp; exact ⟨p, q, S6.unsuite ok, q6⟩
          | cont => obtain ⟨p, q, S6, q6⟩ := hsp; exact ⟨p, q, S6.unsuite ok, q6⟩
          | ret u => obtain ⟨v6, p, q, S6, r6, q6⟩ := hsp; exact ⟨v6, p, q, S6.unsuite ok, r6, q6⟩
      | named hc hi hln hsu r ih =>
        intro w
        obtain ⟨b, hb1, hyes, hno⟩ := w
        refine wpAny_handleBy_cons (codeAny_handlers_test ?_) (by intro q; cases q)
        refine asked hc ((PySem.W.exm_one (M := model X.prog X.w) J3.kIn look hb1).here ?_)
        cases b with
        | false =>
          show wpAny _ X.A (handleBy (.ref a) X.env _) _ _ _
          exact ih (hno rfl)
        | true =>
          refine codeAny_handlers_suite_as (HandSPX.lands_againZ fl3 fun g4 fl4 up4 => ?_)
          have J4 : Inv X pins σ' H' { s' with heap := g4 } := J.landed nb fl4.1 ((up.trans up3).trans up4) os ag
          obtain ⟨o4, v4, at4, z4, dat4⟩ := fl4.there
          have S4 := J4.suite at4 dat4 na offL offF
          refine store_ok (X := X.suite a ((a, o4) :: (X.pn ++ pins))) (v := .ref a) S4 hN hi (.inl hln) rfl (fun s5 S5 => ?_) (.inr hln)
          refine wpAny_mono ((hsu a o4 cls d (X.pn ++ pins) z4 ⟨_, dat4⟩).run [] s5 _ H' _ S5 (hyes rfl a na)) (fun f s6 hsp => ?_) (fun _ _ z => False.elim z)
          cases f with
          | next => obtain ⟨p, q, S6, q6⟩ := hsp; exact gone_ok (S6.unsuite ok) hN hi hln fun s7 J7 => ⟨_, _, J7, q6⟩
          | brk => obtain ⟨p, q, S6, q6⟩ := hsp; exact gone_ok (S6.unsuite ok) hN hi hln fun s7 J7 => ⟨_, _, J7, q6⟩
          | cont => obtain ⟨p, q, S6, q6⟩ := hsp; exact gone_ok (S6.unsuite ok) hN hi hln fun s7 J7 => ⟨_, _, J7, q6⟩
          | ret u => obtain ⟨v6, p, q, S6, r6, q6⟩ := hsp; exact gone_ok (S6.unsuite ok) hN hi hln fun s7 J7 => ⟨_, _, _, J7, r6, q6⟩
    exact go hh w
  refine wpAny_mono bodyOk (fun f s1 hsp => ?_) (fun e s1 he => he)
  cases f with
  | next => obtain ⟨p, q, J, q1⟩ := hsp; exact wpAny_execs_nil ⟨p, q, J.ofTry ok, q1⟩
  | brk => obtain ⟨p, q, J, q1⟩ := hsp; exact ⟨p, q, J.ofTry ok, q1⟩
  | cont => obtain ⟨p, q, J, q1⟩ := hsp; exact ⟨p, q, J.ofTry ok, q1⟩
  | ret u => obtain ⟨v, p, q, J, r, q1⟩ := hsp; exact ⟨v, p, q, J.ofTry ok, r, q1⟩
end

/-! ### mirrors of try -/
def tryO {ρ lam α : Type} (m : O ρ lam α) (h : Er → O ρ lam α) : O ρ lam α := match m with
  | .er x => h x
  | m => m
def noEr {ρ lam α : Type} (m : O ρ lam α) : O ρ lam α := match m with
  | .er _ => .stuck
  | m => m
/-- one clause: its class asked, its suite, the other clauses -/
def clO {ρ lam α : Type} (sub : Str → Option Bool) (ms h : Er → O ρ lam α) (x : Er) : O ρ lam α := match sub x.c with
  | some true => noEr (ms x)
  | some false => h x
  | none => .stuck
/-- the exception that a suite holds -/
def eX (a : Addr) (d : Option Addr) (x : Er) : VP := fun K v S => v = .ref a ∧ XF K S x d
theorem XF.mono {K : PySem.W.Frag} {S S' : Hp} {x : Er} {d : Option Addr} (h : XF K S x d) (e : Same S S') : XF K S' x d := by
  rcases h with h | ⟨dd, fsV, h1, h2, h3⟩
  · exact .inl h
  · exact .inr ⟨dd, fsV, h1, e _ _ h2, Paired.mapP h3 fun _ _ q => ⟨q.1, q.2.mono e⟩⟩
section
variable {K : PySem.W.Frag} {ρ lam α : Type} {X : Fx ρ} {Γ Gt : List (Option Tm)} {n : α → List (Option Tm)} {b c : lam → List (Option Tm)} {t u : TS} {te : TE} {W Wout : WX}
theorem Out.noEr {m : O ρ lam α} {N : α → Prop} {T : ρ → Prop} {B C : lam → Prop} {E E' : Er → Prop} (h : Out (Gv.noEr m) N T B C E) : Out m N T B C E' := by
  cases m <;> first | exact h | exact h.elim
def slotX (io : Option Nat) (G : List (Option Tm)) (a : Addr) (d : Option Addr) (x : Er) : List (Option Tm) := match io with
  | none => G
  | some i => G.set i (some (.dat (eX a d x)))
inductive HJ (K : PySem.W.Frag) {ρ lam α : Type} (X : Fx ρ) (Gt : List (Option Tm)) (n : α → List (Option Tm)) (b c : lam → List (Option Tm)) : List Hn → (Er → O ρ lam α) → Prop
  | nil : HJ K X Gt n b c [] (fun x => .er x)
  | cons {cl : Value} {io : Option Nat} {ts : Addr → Value → Option Addr → TS} {l : List Hn} {sub : Str → Option Bool} {ms h : Er → O ρ lam α}
      (hsub : ∀ nm r, sub nm = some r → PySem.W.exmOne K (.ref (X.EC nm)) cl = some r)
      (hi : ∀ i, io = some i → i < Gt.length ∧ (∀ a, (n a)[i]? = some none ∨ (n a)[i]? = none) ∧ (∀ a, (b a)[i]? = some none ∨ (b a)[i]? = none) ∧ (∀ a, (c a)[i]? = some none ∨ (c a)[i]? = none))
      (hs : ∀ x a d, BJ K { X with EW := fun _ _ _ _ => False } (slotX io Gt a d x) (ts a (.ref (X.EC x.c)) d) (ms x) n b c)
      (r : HJ K X Gt n b c l h) : HJ K X Gt n b c (⟨cl, io, ts⟩ :: l) (clO sub ms h)
theorem At.anyS {g : Gh} {σ : St} {H : Hp} {i : Nat} (h : At K g Γ σ [] H) (hn : Γ[i]? = some none ∨ Γ[i]? = none) (x : Option V) : At K g Γ (σ.set i x) [] H := by
  obtain ⟨S, h⟩ := h
  exact ⟨S, h.any hn x⟩
theorem HJ.go {l : List Hn} {h : Er → O ρ lam α} (hj : HJ K X Gt n b c l h) (hEW : X.EW = WE Wout) (hw : Le X.Gw Gt) {g : Gh} {D : Ends} {x : Er} (hm : Out (h x) (NxW K g n D.nx) (RtW K g X D.rt) (NxW K g b D.bk) (NxW K g c D.ct) (ErW K g X)) {σ' : St} {H' S' : Hp} {d : Option Addr}
    (hA : AtS K g S' Gt σ' [] H') (hx : XF K S' x d) : wHs K Wout D l (.ref (X.EC x.c)) d σ' H' := by
  induction hj with
  | nil =>
    have sub : (pack σ' X.Gw ++ []).Sublist (pack σ' Gt ++ []) := (hw.sub σ').append_right []
    have h2 : AtS K g S' X.Gw σ' [] H' := ⟨hA.base, Nat.le_trans hw.len hA.len, fun y hy => hA.all y (sub.subset hy), fun y hy => hA.ns y ((hw.sub σ').subset hy), (fun y hy => nomatch hy), hA.nd.sublist (addrs_sub sub)⟩
    have q := hm σ' H' S' d h2 hx
    rw [hEW] at q
    exact q
  | @cons cl io ts l sub ms h hsub hi hs r ih =>
    unfold clO at hm
    cases e : sub x.c with
    | none => rw [e] at hm; exact hm.elim
    | some r =>
      rw [e] at hm
      cases r with
      | false => exact ⟨false, hsub _ _ e, (fun z => nomatch z), fun _ => ih hm⟩
      | true =>
        refine ⟨true, hsub _ _ e, fun _ a na => ?_, (fun z => nomatch z)⟩
        cases io with
        | none => exact hs x a d g σ' H' _ ⟨S', hA⟩ hm.noEr
        | some i =>
          obtain ⟨h1, h2, h3, h4⟩ := hi i rfl
          have hA2 : AtS K g S' (Gt.set i (some (.dat (eX a d x)))) (σ'.set i (some (.ref a))) [] H' := (hA.push (p := eX a d x) (v := .ref a) (.of ⟨rfl, hx⟩)).set h1 (fun j z => nomatch z) (fun y hy => nomatch hy)
          refine hs x a d g (σ'.set i (some (.ref a))) H' _ ⟨S', hA2⟩ (hm.noEr.imp (fun y q σ2 H2 hA3 => q _ _ (hA3.anyS (h2 y) none)) (fun _ q => q) (fun y q σ2 H2 hA3 => q _ _ (hA3.anyS (h3 y) none)) (fun y q σ2 H2 hA3 => q _ _ (hA3.anyS (h4 y) none)) fun _ q => q)
theorem bj_try {l : List Hn} {tb : WX → TS} {mb : O ρ lam α} {h : Er → O ρ lam α} (hEW : X.EW = WE Wout) (hw : Le X.Gw Gt) (hb : ∀ W, BJ K { X with Gw := Gt, EW := WE W } Γ (tb W) mb n b c) (hh : HJ K X Gt n b c l h) :
    BJ K X Γ (tTry K Wout l tb) (tryO mb h) n b c := fun g σ H D hA hm => by
  show tb (wHs K Wout D l) D σ H
  refine hb (wHs K Wout D l) g σ H D hA ?_
  cases mb with
  | nx a => exact hm
  | rt r => exact hm
  | bk l => exact hm
  | ct l => exact hm
  | stuck => exact hm
  | er x => exact fun σ' H' S' d hA' hx => hh.go hEW hw hm hA' hx

/-! ### raise X(e), class X: def __init__(self, f): self.f = f -/
def spIni1 (K : PySem.W.Frag) (f : Str) : Sp := fun vs H Q _ => ∃ (a C : Addr) (y : V), vs = [.ref a, y] ∧ H a = some (exo a C none) ∧ OexC K C ∧ PySem.W.findIn K (.ref C) f = some none ∧
  ∀ dx, H dx = none → dx ≠ a → Q .non (upd (upd H dx (exd dx [(f, y)])) a (exo a C (some dx)))
def spIni2 (K : PySem.W.Frag) (f f2 : Str) : Sp := fun vs H Q _ => ∃ (a C : Addr) (y z : V), vs = [.ref a, y, z] ∧ H a = some (exo a C none) ∧ OexC K C ∧ PySem.W.findIn K (.ref C) f = some none ∧ PySem.W.findIn K (.ref C) f2 = some none ∧
  ∀ dx, H dx = none → dx ≠ a → Q .non (upd (upd (upd H dx (exd dx [(f, y)])) a (exo a C (some dx))) dx (exd dx [(f2, z), (f, y)]))
theorem ini1_ok {σ : St} {f : Str} {vs : List V} {H : Hp} {Q : VK} {E : XK} {D : Ends} (hD : D.nx = fun _ H' => Q .non H') (h0 : ∀ a y, vs = [.ref a, y] → σ[0]? = some (some (.ref a)) ∧ σ[1]? = some (some y)) (h : spIni1 K f vs H Q E) : tSeq (tOst K f (tVar 0) (tVar 1)) tNext D σ H := by
  obtain ⟨a, C, y, e, h1, T, hno, k⟩ := h
  obtain ⟨e0, e1⟩ := h0 a y e
  refine ⟨y, e1, .ref a, e0, a, C, rfl, T, hno, .inl ⟨h1, fun dx n ne => ?_⟩⟩
  show D.nx σ _
  rw [hD]
  exact k dx n ne
theorem ini2_ok {σ : St} {f f2 : Str} {vs : List V} {H : Hp} {Q : VK} {E : XK} {D : Ends} (hD : D.nx = fun _ H' => Q .non H') (h0 : ∀ a y z, vs = [.ref a, y, z] → σ[0]? = some (some (.ref a)) ∧ σ[1]? = some (some y) ∧ σ[2]? = some (some z)) (h : spIni2 K f f2 vs H Q E) :
    tSeq (tOst K f (tVar 0) (tVar 1)) (tSeq (tOst K f2 (tVar 0) (tVar 2)) tNext) D σ H := by
  obtain ⟨a, C, y, z, e, h1, T, hno, hno2, k⟩ := h
  obtain ⟨e0, e1, e2⟩ := h0 a y z e
  refine ⟨y, e1, .ref a, e0, a, C, rfl, T, hno, .inl ⟨h1, fun dx n ne => ?_⟩⟩
  refine ⟨z, e2, .ref a, e0, a, C, rfl, T, hno2, .inr ⟨dx, _, upd_same, by rw [upd_ne ne, upd_same], by simp, ?_⟩⟩
  show D.nx σ _
  rw [hD]
  exact k dx n ne
/-- the heap behind C(y): the class's object is gone, its dict stands -/
theorem gone_heap {H : Hp} {a dx : Addr} {o1 o2 o3 o4 : HO} (n : H a = none) (ne : dx ≠ a) : upd (del (upd (upd (upd H a o1) dx o2) a o3) a) dx o4 = upd H dx o4 := by
  funext b
  by_cases hb : b = dx
  · subst hb; rw [upd_same, upd_same]
  · rw [upd_ne hb, upd_ne hb]
    by_cases ha : b = a
    · subst ha; rw [del_same, n]
    · rw [del_ne ha, upd_ne ha, upd_ne hb, upd_ne ha]
theorem gone_heap2 {H : Hp} {a dx : Addr} {o1 o2 o3 o4 o5 : HO} (n : H a = none) (ne : dx ≠ a) : upd (del (upd (upd (upd (upd H a o1) dx o2) a o3) dx o5) a) dx o4 = upd H dx o4 := by
  funext b
  by_cases hb : b = dx
  · subst hb; rw [upd_same, upd_same]
  · rw [upd_ne hb, upd_ne hb]
    by_cases ha : b = a
    · subst ha; rw [del_same, n]
    · rw [del_ne ha, upd_ne hb, upd_ne ha, upd_ne hb, upd_ne ha]
theorem bj_raise1 {C : Addr} {f cn : Str} {dv : PyData} (hC : X.EC cn = C) (T : OexC K C) (hno : PySem.W.findIn K (.ref C) f = some none) (hEW : X.EW = WE W) (hw : Le X.Gw Γ) (he : EV K Γ te (.dat (eD dv))) :
    BJ K X Γ (tSeq (fun _ σ H => tMkO C (spIni1 K f) [] (tCons te tNil) σ H fun cls d H' => W cls d σ H') u) (.er ⟨cn, [(f, dv)]⟩ : O ρ lam α) n b c := fun g σ H D hA hm => by
  refine he g σ [] H _ hA fun y H1 ⟨S, h⟩ => ⟨by simp, fun a na => ⟨a, C, y, rfl, upd_same, T, hno, fun dx nd ne => ⟨rfl, dx, [(f, y)], upd_same, ?_, ?_, ?_⟩⟩⟩
  · rw [upd_ne ne, upd_same]
  · rw [upd_ne ne] at nd; exact nd
  · rw [upd_ne ne] at nd
    rw [gone_heap na ne]
    have hv := h.top
    have h1 := (h.pop.lay (o := .xd [(f, y)]) nd)
    have sub : (pack σ X.Gw ++ []).Sublist (pack σ Γ ++ []) := (hw.sub σ).append_right []
    have h2 : AtS K g _ X.Gw σ [] (upd H1 dx (.xd [(f, y)])) := ⟨h1.base, Nat.le_trans hw.len h1.len, fun x hx => h1.all x (sub.subset hx), fun x hx => h1.ns x ((hw.sub σ).subset hx), (fun x hx => nomatch hx), h1.nd.sublist (addrs_sub sub)⟩
    have q := hm σ _ _ (some dx) h2 (.inr ⟨dx, [(f, y)], rfl, upd_same, .cons ⟨rfl, Hd.mono hv fun b o e => by rw [upd_ne (ne_of_none e (nS_of h nd))]; exact e⟩ .nil⟩)
    rw [hEW] at q
    rw [← hC]
    exact q
theorem bj_raise2 {C : Addr} {f f2 cn : Str} {dv dw : PyData} {te2 : TE} (hC : X.EC cn = C) (T : OexC K C) (hno : PySem.W.findIn K (.ref C) f = some none) (hno2 : PySem.W.findIn K (.ref C) f2 = some none) (hEW : X.EW = WE W) (hw : Le X.Gw Γ) (he : EV K Γ te (.dat (eD dv))) (he2 : EV K Γ te2 (.dat (eD dw))) :
    BJ K X Γ (tSeq (fun _ σ H => tMkO C (spIni2 K f f2) [] (tCons te (tCons te2 tNil)) σ H fun cls d H' => W cls d σ H') u) (.er ⟨cn, [(f2, dw), (f, dv)]⟩ : O ρ lam α) n b c := fun g σ H D hA hm => by
  refine he g σ [] H _ hA fun y H0 h0 => he2 g σ _ H0 _ h0 fun z H1 ⟨S, h⟩ => ⟨by simp, fun a na => ⟨a, C, y, z, rfl, upd_same, T, hno, hno2, fun dx nd ne => ⟨rfl, dx, [(f2, z), (f, y)], ?_, upd_same, ?_, ?_⟩⟩⟩
  · rw [upd_ne (Ne.symm ne), upd_same]
  · rw [upd_ne ne] at nd; exact nd
  · rw [upd_ne ne] at nd
    rw [gone_heap2 na ne]
    have hv := h.top
    have hv2 := h.pop.top
    have h1 := (h.pop.pop.lay (o := .xd [(f2, z), (f, y)]) nd)
    have sub : (pack σ X.Gw ++ []).Sublist (pack σ Γ ++ []) := (hw.sub σ).append_right []
    have h2 : AtS K g _ X.Gw σ [] (upd H1 dx (.xd [(f2, z), (f, y)])) := ⟨h1.base, Nat.le_trans hw.len h1.len, fun x hx => h1.all x (sub.subset hx), fun x hx => h1.ns x ((hw.sub σ).subset hx), (fun x hx => nomatch hx), h1.nd.sublist (addrs_sub sub)⟩
    have same : Same S (upd S dx (.xd [(f2, z), (f, y)])) := fun b o e => by rw [upd_ne (ne_of_none e (nS_of h nd))]; exact e
    have q := hm σ _ _ (some dx) h2 (.inr ⟨dx, [(f2, z), (f, y)], rfl, upd_same, .cons ⟨rfl, Hd.mono hv same⟩ (.cons ⟨rfl, Hd.mono hv2 same⟩ .nil)⟩)
    rw [hEW] at q
    rw [← hC]
    exact q
/-- err.f in a suite -/
def fldR (x : Er) (cn f : Str) : R PyData := if x.c = cn then (match x.fs.lookup f with
  | some d => .nx d
  | none => .stuck) else .stuck
theorem lookup_fs {S : Hp} {f : Str} {d : PyData} : ∀ {fs : List (Str × PyData)} {fsV : List (Str × V)}, Paired (fun (p : Str × PyData) (q : Str × V) => p.1 = q.1 ∧ Hd K (eD p.2) q.2 S) fs fsV → fs.lookup f = some d → ∃ v, fsV.lookup f = some v ∧ Hd K (eD d) v S
  | _, _, .nil, h => by simp at h
  | (a, p) :: _, (a', q) :: _, .cons r t, h => by
    obtain ⟨r1, r2⟩ := r
    have r1' : a = a' := r1
    subst r1'
    by_cases e : f = a
    · subst e
      simp only [List.lookup_cons, beq_self_eq_true] at h ⊢
      cases h
      exact ⟨q, rfl, r2⟩
    · have e2 : (f == a) = false := by simpa using e
      simp only [List.lookup_cons, e2] at h ⊢
      exact lookup_fs t h
theorem x_xf {a C : Addr} {d : Option Addr} {x : Er} {cn f : Str} {i : Nat} {EC : Str → Addr} {g : Gh} {σ : St} {τ : List (V × Tm)} {H : Hp} {Q : VK} {E : Er → Prop} (hC : EC cn = C) (hg : Γ[i]? = some (some (.dat (eX a d x)))) (hA : At K g Γ σ τ H)
    (hm : OutR (fldR x cn f) (fun y => ∀ v H', At K g Γ σ ((v, .dat (eD y)) :: τ) H' → Q v H') E) : tXf a (.ref (EC x.c)) d C f (tVar i) σ H Q :=
  ev_var hg g σ τ H _ hA fun v H1 ⟨S, h⟩ => by
    obtain ⟨S0, e0, hv, hx⟩ := h.top
    have hx := hx.mono e0
    unfold fldR at hm
    by_cases ec : x.c = cn
    · rw [if_pos ec] at hm
      cases el : x.fs.lookup f with
      | none => rw [el] at hm; exact hm.elim
      | some y =>
        rw [el] at hm
        rcases hx with ⟨hf, _⟩ | ⟨dd, fsV, h1, h2, h3⟩
        · rw [hf] at el; cases el
        · obtain ⟨w, w1, w2⟩ := lookup_fs h3 el
          exact ⟨hv, by rw [ec, hC], dd, fsV, w, h1, h.base.sh _ _ h2, w1, hm w H1 ⟨S, h.pop.push w2⟩⟩
    · rw [if_neg ec] at hm; exact hm.elim
end
end Gv

set_option Elab.async false
set_option linter.all false
set_option maxRecDepth 100000
set_option maxHeartbeats 2000000
/-! Gv: steps forward, data of any kind -/
namespace Gv
open PySem L2

/-! ### steps -/
section
variable {K : PySem.W.Frag} {ρ lam α β γ : Type} {X : Fx ρ} {Γ : List (Option Tm)} {g : Gh} {H : Hp} {σ : St} {τ : List (V × Tm)} {v x y : V} {t u z : Tm} {i : Nat} {ta tb tc te : TE} {r : R2} {Q : VK} {N : α → Prop} {T : ρ → Prop} {B C : lam → Prop} {E : Er → Prop}
theorem f_o2m {m : R γ} {zz : γ → Tm} {f : γ → O ρ lam α} (ho : O2M K Γ r t u m zz) (hA : At K g Γ σ ((y, u) :: (x, t) :: τ) H) (hm : Out (bindR m f) N T B C E) (k : ∀ a v H', At K g Γ σ ((v, zz a) :: τ) H' → Out (f a) N T B C E → Q v H') : r x y H Q :=
  ho g σ τ H x y Q E hA (hm.bindR.imp (fun a q v H' h' => k a v H' h' q) fun _ q => q)
theorem f_o1m {r : V → Hp → VK → Prop} {m : R γ} {zz : γ → Tm} {f : γ → O ρ lam α} (ho : O1M K Γ r t m zz) (hA : At K g Γ σ ((x, t) :: τ) H) (hm : Out (bindR m f) N T B C E) (k : ∀ a v H', At K g Γ σ ((v, zz a) :: τ) H' → Out (f a) N T B C E → Q v H') : r x H Q :=
  ho g σ τ H x Q E hA (hm.bindR.imp (fun a q v H' h' => k a v H' h' q) fun _ q => q)
theorem f_popm {e : γ → VP} {xs : List γ} {oa : Option Addr} {f : γ × List γ → O ρ lam α} (hg : Γ[i]? = some (some (.own oa (.lst (xs.map e))))) (hA : At K g Γ σ τ H) (hm : Out (bindR (popR xs) f) N T B C E)
    (k : ∀ r v H', At K g (Γ.set i (some (.own oa (.lst (r.2.map e))))) σ ((v, .dat (e r.1)) :: τ) H' → Out (f r) N T B C E → Q v H') : tBM0 K "list" rPop (tVar i) σ H Q :=
  x_pop hg hA (hm.bindR.imp (fun a q v H' h' => k a v H' h' q) fun _ q => q)
theorem bj_go {n : α → List (Option Tm)} {b c : lam → List (Option Tm)} {m : O ρ lam α} {ts : TS} {D : Ends} (hA : At K g Γ σ [] H) (hm : Out m (NxW K g n D.nx) (RtW K g X D.rt) (NxW K g b D.bk) (NxW K g c D.ct) (ErW K g X)) (h : BJ K X Γ ts m n b c) : ts D σ H := h g σ H D hA hm
theorem f_setgo {n : α → List (Option Tm)} {b c : lam → List (Option Tm)} {m : O ρ lam α} {us : TS} {D : Ends} (hA : At K g Γ σ [(v, t)] H) (hn : ∀ j, t ≠ .als j) (hi : Γ[i]?.isSome = true) (hm : Out m (NxW K g n D.nx) (RtW K g X D.rt) (NxW K g b D.bk) (NxW K g c D.ct) (ErW K g X)) (h : BJ K X (Γ.set i (some t)) us m n b c) : gName i v σ H (us D) :=
  h g _ H D (hA.set1 hn hi) hm
theorem f_setlt {n : α → List (Option Tm)} {b c : lam → List (Option Tm)} {f : β → O ρ lam α} {e : β} {us : TS} {D : Ends} (tm : β → Tm) (hA : At K g Γ σ [(v, tm e)] H) (hn : ∀ t j, tm t ≠ .als j) (hi : Γ[i]?.isSome = true) (hm : Out (lt e f) (NxW K g n D.nx) (RtW K g X D.rt) (NxW K g b D.bk) (NxW K g c D.ct) (ErW K g X)) (h : ∀ t, BJ K X (Γ.set i (some (tm t))) us (f t) n b c) : gName i v σ H (us D) :=
  h e g _ H D (hA.set1 (hn e) hi) hm
theorem f_dropgo {n : α → List (Option Tm)} {b c : lam → List (Option Tm)} {m : O ρ lam α} {us : TS} {D : Ends} (hA : At K g Γ σ [(v, t)] H) (hm : Out m (NxW K g n D.nx) (RtW K g X D.rt) (NxW K g b D.bk) (NxW K g c D.ct) (ErW K g X)) (h : BJ K X Γ us m n b c) : us D σ H :=
  h g _ H D hA.pop hm
/-- calls, argument by argument -/
theorem x_call1 {sp : Sp} {EW : St → XK} (h : ta σ H fun x H1 => sp [x] H1 Q (EW σ)) : tCallS sp EW (tCons ta tNil) σ H Q := h
theorem x_call2 {sp : Sp} {EW : St → XK} (h : ta σ H fun x H1 => tb σ H1 fun y H2 => sp [x, y] H2 Q (EW σ)) : tCallS sp EW (tCons ta (tCons tb tNil)) σ H Q := h
theorem x_call3 {sp : Sp} {EW : St → XK} (h : ta σ H fun x H1 => tb σ H1 fun y H2 => tc σ H2 fun z H3 => sp [x, y, z] H3 Q (EW σ)) : tCallS sp EW (tCons ta (tCons tb (tCons tc tNil))) σ H Q := h
theorem x_call4 {td : TE} {sp : Sp} {EW : St → XK} (h : ta σ H fun x H1 => tb σ H1 fun y H2 => tc σ H2 fun z H3 => td σ H3 fun w H4 => sp [x, y, z, w] H4 Q (EW σ)) : tCallS sp EW (tCons ta (tCons tb (tCons tc (tCons td tNil)))) σ H Q := h
theorem x_call5 {td te : TE} {sp : Sp} {EW : St → XK} (h : ta σ H fun x H1 => tb σ H1 fun y H2 => tc σ H2 fun z H3 => td σ H3 fun w H4 => te σ H4 fun w2 H5 => sp [x, y, z, w, w2] H5 Q (EW σ)) : tCallS sp EW (tCons ta (tCons tb (tCons tc (tCons td (tCons te tNil))))) σ H Q := h
/-- displays -/
def TupK (Q : VK) (xs : List V) (H : Hp) : Prop := xs.length ≤ sizeLine ∧ ∀ p, H p = none → Q (.ref p) (upd H p (.tup xs))
def LstK (Q : VK) (xs : List V) (H : Hp) : Prop := xs.length ≤ sizeLine ∧ ∀ p, H p = none → Q (.ref p) (upd H p (.lst xs))
theorem x_tup {ta : TA} (h : ta σ H fun xs H1 => TupK Q xs H1) : tTup ta σ H Q := h
theorem x_lst {ta : TA} (h : ta σ H fun xs H1 => LstK Q xs H1) : tLst ta σ H Q := h
theorem x_cons {tr : TA} {Q : List V → Hp → Prop} (h : ta σ H fun x H1 => tr σ H1 fun xs H2 => Q (x :: xs) H2) : tCons ta tr σ H Q := h
theorem x_nil {Q : List V → Hp → Prop} (h : Q [] H) : tNil σ H Q := h
theorem f_tup {vs : List V} (ps : List VP) (hA : At K g Γ σ ((vs.zip (ps.map Tm.dat)).reverse ++ τ) H) (hl : vs.length = ps.length) (hz : ps.length ≤ 100) (k : ∀ v H', At K g Γ σ ((v, .dat (rT ps)) :: τ) H' → Q v H') : TupK Q vs H := by
  obtain ⟨S, h⟩ := hA
  obtain ⟨d, h2⟩ := h.datas hl
  exact ⟨by rw [hl]; exact Nat.le_trans hz (by decide), fun a ha => k _ _ (h2.newT ha d)⟩
theorem f_lst {vs : List V} (ps : List VP) (hA : At K g Γ σ ((vs.zip (ps.map Tm.dat)).reverse ++ τ) H) (hl : vs.length = ps.length) (hz : ps.length ≤ 100) (k : ∀ v H', At K g Γ σ ((v, .own none (.lst ps)) :: τ) H' → Q v H') : LstK Q vs H := by
  obtain ⟨S, h⟩ := hA
  obtain ⟨d, h2⟩ := h.datas hl
  exact ⟨by rw [hl]; exact Nat.le_trans hz (by decide), fun a ha => k _ _ ⟨S, h2.fresh ha ⟨vs, rfl, d⟩⟩⟩
/-- tests -/
theorem x_not {tt : TT} {Q : Bool → Hp → Prop} (h : tt σ H fun c H1 => Q (!c) H1) : tNot tt σ H Q := h
theorem x_orT {tt uu : TT} {Q : Bool → Hp → Prop} (h : tt σ H fun c H1 => if c = true then Q true H1 else uu σ H1 Q) : tOr tt uu σ H Q := h
theorem x_andT {tt uu : TT} {Q : Bool → Hp → Prop} (h : tt σ H fun c H1 => if c = true then uu σ H1 Q else Q false H1) : tAnd tt uu σ H Q := h
theorem x_orV (h : ta σ H fun x H1 => ∃ c, x = .bl c ∧ if c = true then Q (.bl true) H1 else tb σ H1 Q) : tOrV ta tb σ H Q := h
theorem x_andV (h : ta σ H fun x H1 => ∃ c, x = .bl c ∧ if c = true then tb σ H1 Q else Q (.bl false) H1) : tAndV ta tb σ H Q := h
theorem x_notV (h : ta σ H fun x H1 => ∃ c, x = .bl c ∧ Q (.bl (!c)) H1) : tNotV ta σ H Q := h
theorem f_tst {b : Bool} {P : Bool → Hp → Prop} (hA : At K g Γ σ ((v, .dat (eB b)) :: τ) H) (k : At K g Γ σ τ H → P b H) : ∃ c, v = .bl c ∧ P c H := by
  obtain ⟨S, h⟩ := hA
  exact ⟨b, h.top.b, k ⟨S, h.pop⟩⟩
theorem f_pick {b : Bool} {m1 m2 : O ρ lam α} {P1 P2 : Prop} (hm : Out (if b then m1 else m2) N T B C E) (h1 : Out m1 N T B C E → P1) (h2 : Out m2 N T B C E → P2) : if b = true then P1 else P2 := by
  cases b with
  | true => exact h1 hm
  | false => exact h2 hm
theorem f_ifS {b : Bool} {m1 m2 : O ρ lam α} {t u z : TS} {D : Ends} (hm : Out (if b then m1 else m2) N T B C E) (h1 : Out m1 N T B C E → tSeq t z D σ H) (h2 : Out m2 N T B C E → tSeq u z D σ H) : if b = true then t { D with nx := z D } σ H else u { D with nx := z D } σ H := by
  cases b with
  | true => exact h1 hm
  | false => exact h2 hm
/-- ways that meet again: a value, a test -/
theorem f_join {m : O ρ lam γ} {f : γ → O ρ lam α} {P : Prop} (Gj : γ → List (Option Tm)) (zj : γ → Tm) (hm : Out (m.bind f) N T B C E) (k : ∀ c v H', At K g (Gj c) σ ((v, zj c) :: τ) H' → Out (f c) N T B C E → Q v H')
    (h : Out m (fun c => ∀ v H', At K g (Gj c) σ ((v, zj c) :: τ) H' → Q v H') T B C E → P) : P := h (hm.bind.imp (fun c q v H' h' => k c v H' h' q) (fun _ q => q) (fun _ q => q) (fun _ q => q) fun _ q => q)
theorem f_joinB {m : O ρ lam γ} {f : γ → O ρ lam α} {P : Prop} {Q : Bool → Hp → Prop} (Gj : γ → List (Option Tm)) (bj : γ → Bool) (hm : Out (m.bind f) N T B C E) (k : ∀ c H', At K g (Gj c) σ τ H' → Out (f c) N T B C E → Q (bj c) H')
    (h : Out m (fun c => ∀ H', At K g (Gj c) σ τ H' → Q (bj c) H') T B C E → P) : P := h (hm.bind.imp (fun c q H' h' => k c H' h' q) (fun _ q => q) (fun _ q => q) (fun _ q => q) fun _ q => q)
theorem f_lc2 {sT : Type} {e : β → VP} {js vs : List Nat} {ps : β → List VP} {enc : γ → VP} {wi : TI} {tg : TG} {tt : TT} {m : R (List β)} {f : sT → β → R (sT × Option γ)} {F : sT × List γ → O ρ lam α} (Gl : sT → List (Option Tm)) (s0 : sT) (hi : ITM K (Gl s0) wi m e) (ht : ∀ b, TJ K tg (e b) js (ps b)) (nd : js.Nodup)
    (hn : ∀ s, ∀ j ∈ js, (Gl s)[j]? = some none) (hv : ∀ s, ∀ j ∈ vs, (Gl s)[j]? = some none) (hsub : ∀ j ∈ js, j ∈ vs) (hl : LJ K Gl js ps enc tt te f) (hA : At K g (Gl s0) σ τ H)
    (hm : Out (bindR (bindR m fun xs => lcR f xs s0 []) F) N T B C E) (k : ∀ r v H', At K g (Gl r.1) σ ((v, oL enc r.2) :: τ) H' → Out (F r) N T B C E → Q v H') : tLc wi tg tt te vs σ H Q :=
  f_lc Gl s0 hi ht nd hn hv hsub hl hA (hm.bindR.imp (fun r q v H' h' => k r v H' h' q) fun _ q => q)
theorem At.box {p q : VP} (h : At K g Γ σ ((v, .dat p) :: τ) H) (hb : ∀ v S, Hd K p v S → Hd K q v S) : At K g Γ σ ((v, .dat q) :: τ) H := by
  obtain ⟨S, h⟩ := h
  exact ⟨S, h.pop.push (hb v S h.top)⟩
end

/-! ### data as PyData -/
def dN (_ : Unit) : PyData := .none
def dL {α : Type} (d : α → PyData) (xs : List α) : PyData := .list (xs.map d)
def dT {α : Type} (d : α → PyData) (xs : List α) : PyData := .tuple (xs.map d)
def dO {α : Type} (d : α → PyData) : Option α → PyData
  | none => .none
  | some a => d a
def dP1 {α : Type} (d : α → PyData) (x : α) : PyData := .tuple [d x]
def dP2 {α β : Type} (d : α → PyData) (f : β → PyData) (x : α × β) : PyData := .tuple [d x.1, f x.2]
def dP3 {α β γ : Type} (d : α → PyData) (f : β → PyData) (h : γ → PyData) (x : α × β × γ) : PyData := .tuple [d x.1, f x.2.1, h x.2.2]
def dP4 {α β γ δ : Type} (d : α → PyData) (f : β → PyData) (h : γ → PyData) (k : δ → PyData) (x : α × β × γ × δ) : PyData := .tuple [d x.1, f x.2.1, h x.2.2.1, k x.2.2.2]
/-- a kind's values are data -/
def Bx {α : Type} (e : α → VP) (d : α → PyData) : Prop := ∀ K x v S, Hd K (e x) v S → Dp K S v (d x)
section
variable {K : PySem.W.Frag} {S S' H : Hp} {α β γ δ : Type}
mutual
theorem Dp.mono (e : Same S S') : ∀ {d : PyData} {v : V}, Dp K S v d → Dp K S' v d
  | .none, _, h => by cases h; exact .non
  | .bool _, _, h => by cases h; exact .bl _
  | .int _, _, h => by cases h; exact .int _
  | .str _, _, h => by cases h; exact .str _
  | .list ds, _, h => by
    cases h with
    | lst hs ha => exact .lst (e.seq hs) (DpAll.mono e ha)
  | .tuple ds, _, h => by
    cases h with
    | tup hs ha => exact .tup (same_t e hs) (DpAll.mono e ha)
  | .dict _, _, h => by cases h
theorem DpAll.mono (e : Same S S') : ∀ {ds : List PyData} {vs : List V}, DpAll K S vs ds → DpAll K S' vs ds
  | [], _, h => by cases h; exact .nil
  | d :: ds, _, h => by
    cases h with
    | cons h1 h2 => exact .cons (Dp.mono e h1) (DpAll.mono e h2)
end
theorem bx_i : Bx eI PyData.int := fun K x v S h => by rw [h.i]; exact .int x
theorem bx_b : Bx eB PyData.bool := fun K x v S h => by rw [h.b]; exact .bl x
theorem bx_s : Bx eS PyData.str := fun K x v S h => by rw [h.s]; exact .str x
theorem bx_n : Bx eU dN := fun K x v S h => by have e : v = .non := Hd.n h; rw [e]; exact .non
theorem bx_d : Bx eD id := fun K x v S h => by
  obtain ⟨S0, e, q⟩ := h
  exact Dp.mono e q
theorem bx_o {e : α → VP} {d : α → PyData} (h : Bx e d) : Bx (eO e) (dO d) := fun K x v S q => by
  cases x with
  | none => have e : v = .non := Hd.n q; rw [e]; exact .non
  | some a => exact h K a v S q
theorem bx_all {e : α → VP} {d : α → PyData} (h : Bx e d) : ∀ {xs : List α} {vs : List V}, Hds K S (xs.map e) vs → DpAll K S vs (xs.map d)
  | [], _, .nil => .nil
  | x :: xs, _, .cons r t => .cons (h K x _ S r) (bx_all h t)
theorem bx_l {e : α → VP} {d : α → PyData} (h : Bx e d) : Bx (eL e) (dL d) := fun K x v S q => by
  obtain ⟨a, vs, rfl, h2, h3⟩ := Hd.l q
  exact .lst h2 (bx_all h h3)
theorem bx_t {e : α → VP} {d : α → PyData} (h : Bx e d) : Bx (eT e) (dT d) := fun K x v S q => by
  obtain ⟨a, vs, rfl, h2, h3⟩ := Hd.t q
  exact .tup h2 (bx_all h h3)
theorem bx_p1 {e : α → VP} {d : α → PyData} (h : Bx e d) : Bx (eP1 e) (dP1 d) := fun K x v S q => by
  obtain ⟨a, vs, rfl, h2, h3⟩ := Hd.t q
  cases h3 with
  | cons r1 t => cases t; exact .tup h2 (.cons (h K _ _ S r1) .nil)
theorem bx_p2 {e : α → VP} {d : α → PyData} {e2 : β → VP} {d2 : β → PyData} (h : Bx e d) (k : Bx e2 d2) : Bx (eP2 e e2) (dP2 d d2) := fun K x v S q => by
  obtain ⟨a, vs, rfl, h2, h3⟩ := Hd.t q
  cases h3 with
  | cons r1 t => cases t with
    | cons r2 t => cases t; exact .tup h2 (.cons (h K _ _ S r1) (.cons (k K _ _ S r2) .nil))
theorem bx_p3 {e : α → VP} {d : α → PyData} {e2 : β → VP} {d2 : β → PyData} {e3 : γ → VP} {d3 : γ → PyData} (h : Bx e d) (k : Bx e2 d2) (l : Bx e3 d3) : Bx (eP3 e e2 e3) (dP3 d d2 d3) := fun K x v S q => by
  obtain ⟨a, vs, rfl, h2, h3⟩ := Hd.t q
  cases h3 with
  | cons r1 t => cases t with
    | cons r2 t => cases t with
      | cons r3 t => cases t; exact .tup h2 (.cons (h K _ _ S r1) (.cons (k K _ _ S r2) (.cons (l K _ _ S r3) .nil)))
theorem bx_p4 {e : α → VP} {d : α → PyData} {e2 : β → VP} {d2 : β → PyData} {e3 : γ → VP} {d3 : γ → PyData} {e4 : δ → VP} {d4 : δ → PyData} (h : Bx e d) (k : Bx e2 d2) (l : Bx e3 d3) (m : Bx e4 d4) : Bx (eP4 e e2 e3 e4) (dP4 d d2 d3 d4) := fun K x v S q => by
  obtain ⟨a, vs, rfl, h2, h3⟩ := Hd.t q
  cases h3 with
  | cons r1 t => cases t with
    | cons r2 t => cases t with
      | cons r3 t => cases t with
        | cons r4 t => cases t; exact .tup h2 (.cons (h K _ _ S r1) (.cons (k K _ _ S r2) (.cons (l K _ _ S r3) (.cons (m K _ _ S r4) .nil))))
theorem Bx.hd {e : α → VP} {d : α → PyData} (h : Bx e d) {x : α} : ∀ v S, Hd K (e x) v S → Hd K (eD (d x)) v S := fun v S q => .of (h K x v S q)
theorem ev_box {Γ : List (Option Tm)} {te : TE} {e : α → VP} {d : α → PyData} {x : α} (h : Bx e d) (he : EV K Γ te (.dat (e x))) : EV K Γ te (.dat (eD (d x))) := fun g σ τ H Q hA k => he g σ τ H Q hA fun v H' h' => k v H' (h'.box h.hd)
/-! ### == of data -/
/-- == tells equality of a kind's values; they can be compared -/
structure EqK (d : α → PyData) (n : Nat) : Prop where
  eq : ∀ x y, PyData.eqv (d x) (d y) = true ↔ x = y
  lay : ∀ x, PyData.canLay0 (d x) = true
  dep : ∀ x, PyData.depth (d x) ≤ n
end
end Gv

set_option Elab.async false
set_option linter.all false
set_option maxRecDepth 100000
set_option maxHeartbeats 2000000
/-! Gv: ==, isinstance, data of any kind -/
namespace Gv
open PySem L2
section
variable {K : PySem.W.Frag} {Γ : List (Option Tm)} {α β γ δ : Type} {t u : Tm} {n m : Nat}
theorem eqvAll_c (x y : PyData) (xs ys : List PyData) : PyData.eqvAll (x :: xs) (y :: ys) = (PyData.eqv x y && PyData.eqvAll xs ys) := by rw [PyData.eqvAll]
theorem eqvAll_n : PyData.eqvAll [] [] = true := by rw [PyData.eqvAll]
theorem layAll_c (x : PyData) (xs : List PyData) : PyData.canLayAll0 (x :: xs) = (PyData.canLay0 x && PyData.canLayAll0 xs) := by rw [PyData.canLayAll0]
theorem layAll_n : PyData.canLayAll0 [] = true := by rw [PyData.canLayAll0]
theorem depAll_c (x : PyData) (xs : List PyData) : PyData.depthAll (x :: xs) = max (PyData.depth x) (PyData.depthAll xs) := by rw [PyData.depthAll]
theorem depAll_n : PyData.depthAll [] = 0 := by rw [PyData.depthAll]
structure NoN (d : α → PyData) : Prop where
  l : ∀ x, PyData.eqv .none (d x) = false
  r : ∀ x, PyData.eqv (d x) .none = false
theorem non_i : NoN PyData.int := ⟨fun x => by rw [PyData.eqv], fun x => by rw [PyData.eqv]⟩
theorem non_b : NoN PyData.bool := ⟨fun x => by rw [PyData.eqv], fun x => by rw [PyData.eqv]⟩
theorem non_s : NoN PyData.str := ⟨fun x => by rw [PyData.eqv], fun x => by rw [PyData.eqv]⟩
theorem non_l {d : α → PyData} : NoN (dL d) := ⟨fun x => by rw [dL, PyData.eqv], fun x => by rw [dL, PyData.eqv]⟩
theorem non_t {f : α → List PyData} : NoN (fun x => PyData.tuple (f x)) := ⟨fun x => by rw [PyData.eqv], fun x => by rw [PyData.eqv]⟩
theorem eq_i : EqK PyData.int 0 := ⟨fun x y => by rw [PyData.eqv]; exact beq_iff_eq, fun x => by rw [PyData.canLay0], fun x => by rw [PyData.depth]; exact Nat.le_refl 0⟩
theorem eq_b : EqK PyData.bool 0 := ⟨fun x y => by rw [PyData.eqv]; exact beq_iff_eq, fun x => by rw [PyData.canLay0], fun x => by rw [PyData.depth]; exact Nat.le_refl 0⟩
theorem eq_n : EqK dN 0 := ⟨fun x y => by rw [dN, PyData.eqv]; simp, fun x => by rw [dN, PyData.canLay0], fun x => by rw [dN, PyData.depth]; exact Nat.le_refl 0⟩
theorem eq_o {d : α → PyData} (h : EqK d n) (k : NoN d) : EqK (dO d) n := ⟨fun x y => by
  cases x with
  | none =>
    cases y with
    | none => simp [dO, PyData.eqv]
    | some b => simp [dO, k.l b]
  | some a =>
    cases y with
    | none => simp [dO, k.r a]
    | some b => simp [dO, h.eq a b], fun x => by
  cases x with
  | none => rw [dO, PyData.canLay0]
  | some a => exact h.lay a, fun x => by
  cases x with
  | none => rw [dO, PyData.depth]; exact Nat.zero_le n
  | some a => exact h.dep a⟩
theorem eq_all {d : α → PyData} (h : EqK d n) : (∀ xs ys : List α, PyData.eqvAll (xs.map d) (ys.map d) = true ↔ xs = ys) ∧ (∀ xs : List α, PyData.canLayAll0 (xs.map d) = true) ∧ ∀ xs : List α, PyData.depthAll (xs.map d) ≤ n := by
  refine ⟨fun xs => ?_, fun xs => ?_, fun xs => ?_⟩
  · induction xs with
    | nil =>
      intro ys
      cases ys with
      | nil => simp [eqvAll_n]
      | cons y ys => simp [PyData.eqvAll]
    | cons x xs ih =>
      intro ys
      cases ys with
      | nil => simp [PyData.eqvAll]
      | cons y ys => simp [eqvAll_c, h.eq x y, ih ys]
  · induction xs with
    | nil => exact layAll_n
    | cons x xs ih => rw [List.map_cons, layAll_c, h.lay x, ih]; rfl
  · induction xs with
    | nil => rw [List.map_nil, depAll_n]; exact Nat.zero_le n
    | cons x xs ih => rw [List.map_cons, depAll_c]; exact Nat.max_le.mpr ⟨h.dep x, ih⟩
theorem eq_l {d : α → PyData} (h : EqK d n) : EqK (dL d) (n + 1) := ⟨fun x y => by rw [dL, dL, PyData.eqv]; exact (eq_all h).1 x y, fun x => by rw [dL, PyData.canLay0]; exact (eq_all h).2.1 x, fun x => by rw [dL, PyData.depth]; exact Nat.succ_le_succ ((eq_all h).2.2 x)⟩
theorem eq_t {d : α → PyData} (h : EqK d n) : EqK (dT d) (n + 1) := ⟨fun x y => by rw [dT, dT, PyData.eqv]; exact (eq_all h).1 x y, fun x => by rw [dT, PyData.canLay0]; exact (eq_all h).2.1 x, fun x => by rw [dT, PyData.depth]; exact Nat.succ_le_succ ((eq_all h).2.2 x)⟩
theorem EqK.up {d : α → PyData} (h : EqK d n) (k : n ≤ m) : EqK d m := ⟨h.eq, h.lay, fun x => Nat.le_trans (h.dep x) k⟩
theorem eq_p1 {d : α → PyData} (h : EqK d n) : EqK (dP1 d) (n + 1) := ⟨fun x y => by simp [dP1, PyData.eqv, eqvAll_c, eqvAll_n, h.eq], fun x => by simp [dP1, PyData.canLay0, layAll_c, layAll_n, h.lay], fun x => by
  simp only [dP1, PyData.depth, depAll_c, depAll_n]; have := h.dep x; omega⟩
theorem eq_p2 {d : α → PyData} {d2 : β → PyData} (h : EqK d n) (k : EqK d2 m) : EqK (dP2 d d2) (n + m + 1) := ⟨fun x y => by
  obtain ⟨a, b⟩ := x
  obtain ⟨a', b'⟩ := y
  simp [dP2, PyData.eqv, eqvAll_c, eqvAll_n, h.eq, k.eq], fun x => by simp [dP2, PyData.canLay0, layAll_c, layAll_n, h.lay, k.lay], fun x => by
  simp only [dP2, PyData.depth, depAll_c, depAll_n]; have := h.dep x.1; have := k.dep x.2; omega⟩
theorem eq_p3 {d : α → PyData} {d2 : β → PyData} {d3 : γ → PyData} {l : Nat} (h : EqK d n) (k : EqK d2 m) (o : EqK d3 l) : EqK (dP3 d d2 d3) (n + m + l + 1) := ⟨fun x y => by
  obtain ⟨a, b, c⟩ := x
  obtain ⟨a', b', c'⟩ := y
  simp [dP3, PyData.eqv, eqvAll_c, eqvAll_n, h.eq, k.eq, o.eq], fun x => by simp [dP3, PyData.canLay0, layAll_c, layAll_n, h.lay, k.lay, o.lay], fun x => by
  simp only [dP3, PyData.depth, depAll_c, depAll_n]; have := h.dep x.1; have := k.dep x.2.1; have := o.dep x.2.2; omega⟩
theorem EqK.shaped {d : α → PyData} (h : EqK d n) (hn : n ≤ 64) (x : α) : SeqAt.shaped (d x) = true := by
  unfold SeqAt.shaped
  rw [h.lay x, decide_eq_true (Nat.le_trans (h.dep x) hn)]
  rfl
/-- what stands on the stack is the datum d -/
def DpT (K : PySem.W.Frag) (G : List (Option Tm)) (t : Tm) (d : PyData) : Prop := ∀ g S σ τ H v, AtS K g S G σ τ H → (v, t) ∈ τ → Dp K H v d
theorem DpT.dat {e : α → VP} {d : α → PyData} {x : α} (h : Bx e d) : DpT K Γ (.dat (e x)) (d x) := fun g S σ τ H v hA hm => Dp.mono hA.base.sh (h K x v S (hA.all _ (List.mem_append_right _ hm)))
theorem DpT.lst {e : α → VP} {d : α → PyData} {xs : List α} (h : Bx e d) (hl : IsL Γ t (xs.map e)) : DpT K Γ t (dL d xs) := fun g S σ τ H v hA hm => by
  obtain ⟨a, vs, rfl, h2, h3⟩ := hA.isL hm hl
  exact .lst h2 (DpAll.mono hA.base.sh (bx_all h h3))
theorem o2_eqD0 {a b : PyData} {c : Bool} (h1 : DpT K Γ t a) (h2 : DpT K Γ u b) (s1 : SeqAt.shaped a = true) (s2 : SeqAt.shaped b = true) (hc : PyData.eqv a b = c) : O2 K Γ (rEqD K) t u (.dat (eB c)) := fun g σ τ H x y Q ⟨S, h⟩ k =>
  ⟨a, b, h1 g S σ _ H x h (List.mem_cons_of_mem _ List.mem_cons_self), h2 g S σ _ H y h List.mem_cons_self, s1, s2, by rw [hc]; exact k _ H ⟨S, h.pop.pop.push (.of rfl)⟩⟩
theorem o2_neD0 {a b : PyData} {c : Bool} (h1 : DpT K Γ t a) (h2 : DpT K Γ u b) (s1 : SeqAt.shaped a = true) (s2 : SeqAt.shaped b = true) (hc : PyData.eqv a b = c) : O2 K Γ (rNeD K) t u (.dat (eB (!c))) := fun g σ τ H x y Q ⟨S, h⟩ k =>
  ⟨a, b, h1 g S σ _ H x h (List.mem_cons_of_mem _ List.mem_cons_self), h2 g S σ _ H y h List.mem_cons_self, s1, s2, by rw [hc]; exact k _ H ⟨S, h.pop.pop.push (.of rfl)⟩⟩
theorem EqK.dec [DecidableEq α] {d : α → PyData} (h : EqK d n) (x y : α) : PyData.eqv (d x) (d y) = decide (x = y) := by
  by_cases e : x = y
  · rw [decide_eq_true e]; exact (h.eq x y).mpr e
  · rw [decide_eq_false e]
    cases q : PyData.eqv (d x) (d y) with
    | false => rfl
    | true => exact absurd ((h.eq x y).mp q) e
theorem o2_eqD [DecidableEq α] {d : α → PyData} {x y : α} (h1 : DpT K Γ t (d x)) (h2 : DpT K Γ u (d y)) (h : EqK d n) (hn : n ≤ 64 := by decide) : O2 K Γ (rEqD K) t u (.dat (eB (decide (x = y)))) :=
  o2_eqD0 h1 h2 (h.shaped hn x) (h.shaped hn y) (h.dec x y)
theorem o2_neD [DecidableEq α] {d : α → PyData} {x y : α} (h1 : DpT K Γ t (d x)) (h2 : DpT K Γ u (d y)) (h : EqK d n) (hn : n ≤ 64 := by decide) : O2 K Γ (rNeD K) t u (.dat (eB (!decide (x = y)))) :=
  o2_neD0 h1 h2 (h.shaped hn x) (h.shaped hn y) (h.dec x y)
/-- with texts inside: they must be texts of proper signs -/
def eqR (a b : PyData) : R Bool := gd (SeqAt.shaped a && SeqAt.shaped b) (PyData.eqv a b)
theorem o2_eqDM {a b : PyData} (h1 : DpT K Γ t a) (h2 : DpT K Γ u b) : O2M K Γ (rEqD K) t u (eqR a b) (fun c => .dat (eB c)) := At.part2 fun h => o2_eqD0 h1 h2 (Bool.and_eq_true_iff.mp h).1 (Bool.and_eq_true_iff.mp h).2 rfl
theorem o2_neDM {a b : PyData} (h1 : DpT K Γ t a) (h2 : DpT K Γ u b) : O2M K Γ (rNeD K) t u (eqR a b) (fun c => .dat (eB (!c))) := At.part2 fun h => o2_neD0 h1 h2 (Bool.and_eq_true_iff.mp h).1 (Bool.and_eq_true_iff.mp h).2 rfl

/-! ### isinstance -/
def tyD : PyData → String
  | .none => "NoneType" | .bool _ => "bool" | .int _ => "int" | .str _ => "str" | .list _ => "list" | .tuple _ => "tuple" | .dict _ => "dict"
def isA (T : String) (d : PyData) : Bool := match T, d with
  | "int", .int _ => true | "int", .bool _ => true | "bool", .bool _ => true | "str", .str _ => true | "list", .list _ => true | "tuple", .tuple _ => true | _, _ => false
theorem Dp.tyx {H : Hp} {v : V} {d : PyData} (h : Dp K H v d) : TyX K H v (.type (tyD d)) := by
  cases h with
  | non => exact .base .non
  | bl b => exact .base (.bl b)
  | int i => exact .base (.int i)
  | str x => exact .base (.str x)
  | lst hs _ =>
    rcases hs with (h | ⟨o, h⟩) | ⟨o, its, n, h1, h2, _⟩
    · exact .base (.lst h)
    · exact .base (.frz h)
    · exact .kList h1 h2
  | tup hs _ =>
    rcases hs with (h | ⟨o, h⟩) | ⟨o, its, n, h1, h2, _⟩
    · exact .base (.tup h)
    · exact .fTuple h
    · exact .kTuple h1 h2
/-- the built-in classes that are asked for -/
inductive AskT : String → Prop
  | int : AskT "int" | bool : AskT "bool" | str : AskT "str" | list : AskT "list" | tuple : AskT "tuple"
theorem kit_isA {T : String} (a : AskT T) {H : Hp} {v : V} {d : PyData} (h : Dp K H v d) : PySem.W.kitOne K (.type (tyD d)) (.type T) = some (isA T d) := by
  have go : ∀ (s T : String) (r : Bool), kitB s T = some r → PySem.W.kitOne K (.type s) (.type T) = some r := fun s T r h => kit_ty h
  cases a <;> cases h <;> first
    | exact go "bool" _ true (by decide +kernel) | exact go "bool" _ false (by decide +kernel) | exact go "NoneType" _ false (by decide +kernel)
    | exact go "int" _ true (by decide +kernel) | exact go "int" _ false (by decide +kernel) | exact go "str" _ true (by decide +kernel) | exact go "str" _ false (by decide +kernel)
    | exact go "list" _ true (by decide +kernel) | exact go "list" _ false (by decide +kernel) | exact go "tuple" _ true (by decide +kernel) | exact go "tuple" _ false (by decide +kernel)
theorem o2_isi {T : String} {d : PyData} (a : AskT T) (h1 : DpT K Γ t d) : O2 K Γ (fun x y => rIsi K [x, y]) t (.dat (eV (.ty T))) (.dat (eB (isA T d))) := fun g σ τ H x y Q ⟨S, h⟩ k => by
  have hd := h1 g S σ _ H x h (List.mem_cons_of_mem _ List.mem_cons_self)
  have ey : y = .ty T := Hd.v h.top
  subst ey
  exact ⟨x, .ty T, .type (tyD d), .type T, isA T d, rfl, .ty T, (Dp.tyx hd), kit_isA a hd, k _ H ⟨S, h.pop.pop.push (.of rfl)⟩⟩
theorem ev_isi {ta : TE} {T : String} {d : PyData} (a : AskT T) (he : EV K Γ ta t) (h1 : DpT K Γ t d) : EV K Γ (tCB (rIsi K) (tCons ta (tCons (tC (.ty T)) tNil))) (.dat (eB (isA T d))) := ev_cb2 he ev_cv (o2_isi a h1)
theorem f_isiT {T1 T2 : String} {d : PyData} {g : Gh} {σ : St} {τ : List (V × Tm)} {H : Hp} {x : V} {Q : VK} (a1 : AskT T1) (a2 : AskT T2) (h1 : DpT K Γ t d) (hA : At K g Γ σ ((x, t) :: τ) H) (k : ∀ v H', At K g Γ σ ((v, .dat (eB (isA T1 d || isA T2 d))) :: τ) H' → Q v H') :
    tCons (tTup (tCons (tC (.ty T1)) (tCons (tC (.ty T2)) tNil))) tNil σ H (fun xs H2 => rIsiT K (x :: xs) H2 Q) := by
  obtain ⟨S, h⟩ := hA
  refine ⟨by show 2 ≤ sizeLine; decide, fun p hp => ?_⟩
  have h2 := h.lay (o := .tup [V.ty T1, V.ty T2]) hp
  have hd := h1 g _ σ _ _ x h2 List.mem_cons_self
  refine ⟨x, p, [.ty T1, .ty T2], .type (tyD d), [.type T1, .type T2], isA T1 d || isA T2 d, rfl, upd_same, .cons (.ty T1) (.cons (.ty T2) .nil), (Dp.tyx hd), ?_, k _ _ ⟨_, h2.pop.push (.of rfl)⟩⟩
  refine kitAny_cons (kit_isA a1 hd) (fun e => ?_) (fun e => by rw [e]; rfl)
  refine kitAny_cons (kit_isA a2 hd) (fun e2 => ?_) (fun e2 => by rw [e2, Bool.or_true])
  rw [e, e2]
  rfl
theorem ev_isiT {ta : TE} {T1 T2 : String} {d : PyData} (a1 : AskT T1) (a2 : AskT T2) (he : EV K Γ ta t) (h1 : DpT K Γ t d) : EV K Γ (tCB (rIsiT K) (tCons ta (tCons (tTup (tCons (tC (.ty T1)) (tCons (tC (.ty T2)) tNil))) tNil))) (.dat (eB (isA T1 d || isA T2 d))) :=
  fun g σ τ H Q hA k => he g σ τ H _ hA fun x H1 hA1 => f_isiT a1 a2 h1 hA1 k

/-! ### a datum of any kind, asked -/
def intD : PyData → R Int
  | .int i => .nx i
  | _ => .stuck
def lenD : PyData → R Int
  | .list xs => .nx (xs.length : Int)
  | .tuple xs => .nx (xs.length : Int)
  | _ => .stuck
def itemsD : PyData → R (List PyData)
  | .list xs => .nx xs
  | .tuple xs => .nx xs
  | _ => .stuck
def atD (d : PyData) (i : Int) : R PyData := bindR (itemsD d) fun xs => idx xs i
theorem hds_eD {S : Hp} : ∀ {vs : List V} {ds : List PyData}, DpAll K S vs ds → Hds K S (ds.map eD) vs
  | _, _, .nil => .nil
  | _, _, .cons h1 h2 => .cons (.of h1) (hds_eD h2)
theorem eD_list {ds : List PyData} {v : V} {S : Hp} (h : Hd K (eD (.list ds)) v S) : Hd K (eL eD ds) v S := by
  obtain ⟨S0, e, q⟩ := h
  have q : Dp K S0 v (.list ds) := q
  cases q with
  | lst hs ha => exact ⟨S0, e, _, _, rfl, hs, hds_eD ha⟩
theorem eD_tup {ds : List PyData} {v : V} {S : Hp} (h : Hd K (eD (.tuple ds)) v S) : Hd K (eT eD ds) v S := by
  obtain ⟨S0, e, q⟩ := h
  have q : Dp K S0 v (.tuple ds) := q
  cases q with
  | tup hs ha => exact ⟨S0, e, _, _, rfl, hs, hds_eD ha⟩
theorem eD_int {i : Int} {v : V} {S : Hp} (h : Hd K (eD (.int i)) v S) : Hd K (eI i) v S := by
  obtain ⟨S0, e, q⟩ := h
  have q : Dp K S0 v (.int i) := q
  cases q
  exact .of rfl
section
variable {ρ lam : Type} {g : Gh} {σ : St} {τ : List (V × Tm)} {H : Hp} {v : V} {P : Prop} {N : α → Prop} {T : ρ → Prop} {B C : lam → Prop} {E : Er → Prop}
/-- the datum on top is an int -/
theorem f_int {d : PyData} {f : Int → O ρ lam α} (hA : At K g Γ σ ((v, .dat (eD d)) :: τ) H) (hm : Out (bindR (intD d) f) N T B C E) (k : ∀ i, At K g Γ σ ((v, .dat (eI i)) :: τ) H → Out (f i) N T B C E → P) : P := by
  cases d with
  | int i => exact k i (hA.box fun v S q => eD_int q) hm
  | _ => exact hm.elim
/-- .. a list or tuple -/
theorem f_items {d : PyData} {f : List PyData → O ρ lam α} (hA : At K g Γ σ ((v, .dat (eD d)) :: τ) H) (hm : Out (bindR (itemsD d) f) N T B C E) (k : ∀ xs, (At K g Γ σ ((v, .dat (eL eD xs)) :: τ) H ∨ At K g Γ σ ((v, .dat (eT eD xs)) :: τ) H) → Out (f xs) N T B C E → P) : P := by
  cases d with
  | list xs => exact k xs (.inl (hA.box fun v S q => eD_list q)) hm
  | tuple xs => exact k xs (.inr (hA.box fun v S q => eD_tup q)) hm
  | _ => exact hm.elim
end
theorem o1_lenD {d : PyData} : O1M K Γ (fun x => rLen K [x]) (.dat (eD d)) (lenD d) (fun i => .dat (eI i)) := fun g σ τ H x Q E hA hm => by
  cases d with
  | list xs =>
    have := o1_lenT (K := K) (Γ := Γ) (t := .dat (eL eD xs)) xs eD (.l .dat)
    exact this g σ τ H x Q (hA.box fun v S q => eD_list q) hm
  | tuple xs =>
    have := o1_lenT (K := K) (Γ := Γ) (t := .dat (eT eD xs)) xs eD .t
    exact this g σ τ H x Q (hA.box fun v S q => eD_tup q) hm
  | _ => exact hm.elim
/-- d[i] of a list or tuple -/
def rIxQ (K : PySem.W.Frag) : R2 := fun x y H Q => rIxL K x y H Q ∨ rIxT K x y H Q
theorem ix_q {X : Cx} : IxR X (rIxQ X.K) := ix_list.or ix_tup
theorem o2_atD {d : PyData} {i : Int} : O2M K Γ (rIxQ K) (.dat (eD d)) (.dat (eI i)) (atD d i) (fun a => .dat (eD a)) := fun g σ τ H x y Q E hA hm => by
  obtain ⟨S, h⟩ := hA
  cases d with
  | list xs =>
    have h2 : At K g Γ σ ((y, .dat (eI i)) :: (x, .dat (eL eD xs)) :: τ) H := ⟨S, (h.pop.pop.push (eD_list h.pop.top)).push h.top⟩
    exact .inl (o2_idxL (K := K) (Γ := Γ) .dat g σ τ H x y Q E h2 hm)
  | tuple xs =>
    have h2 : At K g Γ σ ((y, .dat (eI i)) :: (x, .dat (eT eD xs)) :: τ) H := ⟨S, (h.pop.pop.push (eD_tup h.pop.top)).push h.top⟩
    exact .inr (o2_idxT (K := K) (Γ := Γ) g σ τ H x y Q E h2 hm)
  | _ => exact hm.elim
/-- a loop over a list or tuple -/
def iSeq (K : PySem.W.Frag) (te : TE) : TI := fun σ H Rk => iList K te σ H Rk ∨ iTup K te σ H Rk
theorem pi_seq {X : Cx} {tg l : Expr} {te : TE} (h : PE X l te) : PI X tg l (iSeq X.K te) := ⟨fun pins s σ H Rk I hw => by
  rcases hw with hw | hw
  · exact (pi_list h).run pins s σ H Rk I hw
  · exact (pi_tup h).run pins s σ H Rk I hw⟩
end
end Gv

set_option Elab.async false
set_option linter.all false
set_option maxRecDepth 100000
set_option maxHeartbeats 2000000
/-! Gv: joins, loops over what is told only on the way, unpacking -/
namespace Gv
open PySem L2
theorem bj_assoc {K : PySem.W.Frag} {ρ lam α : Type} {X : Fx ρ} {G : List (Option Tm)} {a b c : TS} {m : O ρ lam α} {n : α → List (Option Tm)} {bb cc : lam → List (Option Tm)} (h : BJ K X G (tSeq a (tSeq b c)) m n bb cc) : BJ K X G (tSeq (tSeq a b) c) m n bb cc := h
section
variable {K : PySem.W.Frag} {ρ lam α β γ : Type} {X : Fx ρ} {Γ : List (Option Tm)} {g : Gh} {H : Hp} {σ : St} {τ : List (V × Tm)} {v x y : V} {t u z : Tm} {i : Nat} {ta tb tc te : TE} {r r' : R2} {Q : VK} {N : α → Prop} {T : ρ → Prop} {B C : lam → Prop} {E : Er → Prop}
/-! ### steps -/
theorem x_chain (h : ta σ H fun x H1 => tb σ H1 fun y H2 => r x y H2 fun z H3 => ∃ k, z = .bl k ∧ (if k = true then tc σ H3 fun w H4 => r' y w H4 Q else Q (.bl false) H3)) : tChain r r' ta tb tc σ H Q := h
theorem f_chain {a b c : Int} {f f' : Int → Int → Bool} (h3 : EV K Γ tc (.dat (eI c))) (hA : At K g Γ σ ((y, .dat (eI b)) :: (x, .dat (eI a)) :: τ) H) (k : ∀ v H', At K g Γ σ ((v, .dat (eB (f a b && f' b c))) :: τ) H' → Q v H') :
    rI0 (fun i j => .bl (f i j)) x y H fun z H3 => ∃ k, z = .bl k ∧ (if k = true then tc σ H3 fun w H4 => rI0 (fun i j => .bl (f' i j)) y w H4 Q else Q (.bl false) H3) := by
  obtain ⟨S, hS⟩ := hA
  refine ⟨a, b, hS.pop.top.i, hS.top.i, f a b, rfl, ?_⟩
  cases e : f a b with
  | true =>
    rw [if_pos rfl]
    refine h3 g σ _ H _ ⟨S, hS⟩ fun w H3 ⟨S3, hA3⟩ => ⟨b, c, hA3.pop.top.i, hA3.top.i, ?_⟩
    refine k _ H3 ⟨S3, hA3.pop.pop.pop.push (.of ?_)⟩
    show V.bl _ = V.bl _
    rw [e, Bool.true_and]
  | false =>
    rw [if_neg Bool.false_ne_true]
    exact k _ H ⟨S, hS.pop.pop.push (.of (by show V.bl _ = V.bl _; rw [e, Bool.false_and]))⟩
theorem f_int1 {d : PyData} {f : Int → O ρ lam α} {P : Prop} {w : V} {s : Tm} (hA : At K g Γ σ ((w, s) :: (v, .dat (eD d)) :: τ) H) (hm : Out (bindR (intD d) f) N T B C E) (k : ∀ i, At K g Γ σ ((w, s) :: (v, .dat (eI i)) :: τ) H → Out (f i) N T B C E → P) : P := by
  cases d with
  | int i =>
    refine k i ?_ hm
    obtain ⟨S, h⟩ := hA
    refine ⟨S, ?_⟩
    have p : ((w, s) :: (v, Tm.dat (eD (PyData.int i))) :: τ).Perm ((v, Tm.dat (eD (PyData.int i))) :: (w, s) :: τ) := .swap _ _ _
    have h2 := h.perm p
    exact (h2.pop.push (eD_int h2.top)).perm (.swap _ _ _)
  | _ => exact hm.elim
theorem x_cbT {rr : List V → Hp → VK → Prop} {tl : TA} (h : ta σ H fun x H1 => tl σ H1 fun xs H2 => rr (x :: xs) H2 Q) : tCB rr (tCons ta tl) σ H Q := h
theorem x_ifB {u w : TS} {D : Ends} {tc : TT} (h : tc σ H fun b H1 => if b = true then u D σ H1 else w D σ H1) : tIfS tc u w D σ H := h
theorem x_xfm {a Ca : Addr} {d : Option Addr} {x : Er} {cn f : Str} {EC : Str → Addr} {F : PyData → O ρ lam α} (hC : EC cn = Ca) (hg : Γ[i]? = some (some (.dat (eX a d x)))) (hA : At K g Γ σ τ H)
    (hm : Out (bindR (fldR x cn f) F) N T B C E) (k : ∀ y v H', At K g Γ σ ((v, .dat (eD y)) :: τ) H' → Out (F y) N T B C E → Q v H') : tXf a (.ref (EC x.c)) d Ca f (tVar i) σ H Q :=
  x_xf hC hg hA (hm.bindR.imp (fun y q v H' h' => k y v H' h' q) fun _ q => q)
theorem f_joinV {te : TE} {m : O ρ lam γ} {f : γ → O ρ lam α} (Gj : γ → List (Option Tm)) (zj : γ → Tm) (hA0 : At K g Γ σ τ H) (hm : Out (m.bind f) N T B C E) (h : Out m (fun c => ∀ v H', At K g (Gj c) σ ((v, zj c) :: τ) H' → Q v H') T B C E → te σ H Q)
    (k : ∀ c v H', At K g (Gj c) σ ((v, zj c) :: τ) H' → Out (f c) N T B C E → Q v H') : te σ H Q := h (hm.bind.imp (fun c q v H' h' => k c v H' h' q) (fun _ q => q) (fun _ q => q) (fun _ q => q) fun _ q => q)
theorem f_joinT {tt : TT} {m : O ρ lam γ} {f : γ → O ρ lam α} {Q : Bool → Hp → Prop} (Gj : γ → List (Option Tm)) (bj : γ → Bool) (hA0 : At K g Γ σ τ H) (hm : Out (m.bind f) N T B C E) (h : Out m (fun c => ∀ H', At K g (Gj c) σ τ H' → Q (bj c) H') T B C E → tt σ H Q)
    (k : ∀ c H', At K g (Gj c) σ τ H' → Out (f c) N T B C E → Q (bj c) H') : tt σ H Q := h (hm.bind.imp (fun c q H' h' => k c H' h' q) (fun _ q => q) (fun _ q => q) (fun _ q => q) fun _ q => q)
theorem f_boolT {b : Bool} {P : Bool → Hp → Prop} (hA : At K g Γ σ ((v, .dat (eB b)) :: τ) H) (k : At K g Γ σ τ H → P b H) : ∃ c, v = .bl c ∧ P c H := f_tst hA k
theorem o2_isNN {v : Unit} : O2 K Γ rIsN (.dat (eU v)) (.dat eN) (.dat (eB true)) :=
  At.scal2 (fun S v w h1 h2 H Q k => ⟨h2.n, by rw [show v = V.non from Hd.n h1]; exact k⟩) fun _ => rfl
/-! ### more built-ins -/
def gcdI (a b : Int) : Int := ((Nat.gcd a.natAbs b.natAbs : Nat) : Int)
theorem o2_gcd {a b : Int} : O2 K Γ (fun x y => rGcd [x, y]) (.dat (eI a)) (.dat (eI b)) (.dat (eI (gcdI a b))) :=
  At.scal2 (fun S v w h1 h2 H Q k => ⟨a, b, by rw [h1.i, h2.i], k⟩) fun _ => rfl
theorem hds_ints {S : Hp} : ∀ {xs : List Int} {vs : List V}, Hds K S (xs.map eI) vs → vs = xs.map V.int
  | [], _, .nil => rfl
  | x :: xs, _, .cons r t => by rw [show _ = V.int x from r.i, hds_ints t]; rfl
theorem hds_bls {S : Hp} : ∀ {xs : List Bool} {vs : List V}, Hds K S (xs.map eB) vs → vs = xs.map V.bl
  | [], _, .nil => rfl
  | x :: xs, _, .cons r t => by rw [show _ = V.bl x from r.b, hds_bls t]; rfl
theorem o1_sum {xs : List Int} (hl : IsL Γ t (xs.map eI)) : O1 K Γ (fun x => rSum K [x]) t (.dat (eI xs.sum)) := fun g σ τ H x Q ⟨S, h⟩ k => by
  obtain ⟨a, vs, rfl, h2, h3⟩ := h.isL List.mem_cons_self hl
  rw [hds_ints h3] at h2
  exact ⟨a, xs, rfl, h2, k _ H ⟨S, h.pop.push (.of rfl)⟩⟩
theorem o1_all {xs : List Bool} (hl : IsL Γ t (xs.map eB)) : O1 K Γ (fun x => rAll K [x]) t (.dat (eB (xs.all id))) := fun g σ τ H x Q ⟨S, h⟩ k => by
  obtain ⟨a, vs, rfl, h2, h3⟩ := h.isL List.mem_cons_self hl
  rw [hds_bls h3] at h2
  exact ⟨a, xs, rfl, h2, k _ H ⟨S, h.pop.push (.of rfl)⟩⟩
theorem o1_any {xs : List Bool} (hl : IsL Γ t (xs.map eB)) : O1 K Γ (fun x => rAny K [x]) t (.dat (eB (xs.any id))) := fun g σ τ H x Q ⟨S, h⟩ k => by
  obtain ⟨a, vs, rfl, h2, h3⟩ := h.isL List.mem_cons_self hl
  rw [hds_bls h3] at h2
  exact ⟨a, xs, rfl, h2, k _ H ⟨S, h.pop.push (.of rfl)⟩⟩
/-! ### tuple * n -/
def repR {α : Type} (xs : List α) (k : Int) : R (List α) := gd (!xs.isEmpty && decide (2 ≤ k) && decide (k ≤ 1000) && decide (xs.length ≤ 1000)) (List.replicate k.toNat xs).flatten
theorem hds_rep {S : Hp} {ps : List VP} {vs : List V} (d : Hds K S ps vs) : ∀ n : Nat, Hds K S (List.replicate n ps).flatten (List.replicate n vs).flatten
  | 0 => .nil
  | n + 1 => by
    rw [List.replicate_succ, List.replicate_succ, List.flatten_cons, List.flatten_cons]
    exact d.append (hds_rep d n)
theorem rep_map (e : β → VP) (xs : List β) (n : Nat) : (List.replicate n xs).flatten.map e = (List.replicate n (xs.map e)).flatten := by
  rw [List.map_flatten, List.map_replicate]
theorem o2_repT {xs : List β} {e : β → VP} {k : Int} : O2M K Γ (rRepT K) (.dat (eT e xs)) (.dat (eI k)) (repR xs k) (fun c => .dat (eT e c)) := At.part2 fun hc => fun g σ τ H x y Q ⟨S, h⟩ kk => by
  simp only [Bool.and_eq_true, decide_eq_true_eq, Bool.not_eq_true'] at hc
  obtain ⟨⟨⟨h0, h1⟩, h2⟩, h3⟩ := hc
  obtain ⟨a, vs, rfl, k2, k3⟩ := Hd.t h.pop.top
  have hl : vs.length = xs.length := by rw [k3.len, List.length_map]
  refine ⟨a, k, vs, rfl, h.top.i, same_t h.base.sh k2, fun e0 => ?_, h1, h2, by omega, fun p hn => kk _ _ (h.pop.pop.newT hn ?_)⟩
  · subst e0
    cases xs with
    | nil => cases h0
    | cons _ _ => simp at hl
  · rw [rep_map]
    exact hds_rep k3 k.toNat
end
end Gv

set_option Elab.async false
set_option linter.all false
set_option maxRecDepth 100000
set_option maxHeartbeats 2000000
/-! Gv: what is walked, told on the way; unpacking of data -/
namespace Gv
open PySem L2
/-- the walk of xs at a place gives what Rk asks -/
def WK (K : PySem.W.Frag) (g : Gh) (Γ : List (Option Tm)) (σ : St) (τ : List (V × Tm)) {β : Type} (xs : List β) (e : β → VP) (Rk : It → Hp → Prop) : Prop :=
  ∀ (J : It) (Gd : Hp → Prop) (Y : Nat → Hp → V → Hp → Prop) (S1 H' : Hp), Walk J xs.length Gd Y → Same g.S0 S1 → (∀ b, g.F b ≠ none → g.S0 b = none → S1 b = none) → At K ⟨S1, g.F⟩ Γ σ τ H' →
      (∀ S2 H2, Base ⟨S1, g.F⟩ S2 H2 → Gd H2) →
      (∀ (i : Nat) (b : β) (x : V) (H1 H2 : Hp) (Γ' : List (Option Tm)) (σ' : St) (τ' : List (V × Tm)), xs[i]? = some b → Y i H1 x H2 → At K ⟨S1, g.F⟩ Γ' σ' τ' H1 → At K ⟨S1, g.F⟩ Γ' σ' ((x, .dat (e b)) :: τ') H2) → Rk J H'
section
variable {K : PySem.W.Frag} {ρ lam α β γ : Type} {X : Fx ρ} {Γ : List (Option Tm)} {g : Gh} {H : Hp} {σ : St} {τ : List (V × Tm)} {v x y : V} {t u z : Tm} {i : Nat} {ta tb tc te : TE} {r r' : R2} {Q : VK} {N : α → Prop} {T : ρ → Prop} {B C : lam → Prop} {E : Er → Prop}
  {e : β → VP} {xs : List β} {Rk : It → Hp → Prop}
theorem wk_list (hA : At K g Γ σ ((v, .dat (eL e xs)) :: τ) H) (hm : WK K g Γ σ τ xs e Rk) : ∃ a, v = .ref a ∧ (∃ xs, SqL K H a xs) ∧ Rk (Itl K a) H := by
  obtain ⟨S, h⟩ := hA
  obtain ⟨a, vs, rfl, h2, h3⟩ := Hd.l h.top
  have hl : vs.length = xs.length := by rw [h3.len, List.length_map]
  refine ⟨a, rfl, ⟨vs, h.base.sh.seq h2⟩, hm (Itl K a) (fun H => SqL K H a vs) (YAt vs) S H (by rw [← hl]; exact walk_list) h.base.s0 h.base.fs ⟨S, h.pop.reS⟩ (fun S2 H2 B => B.reS.seq h2) fun i b x H1 H2 Γ' σ' τ' hb hy ⟨S2, hA2⟩ => ?_⟩
  obtain ⟨rfl, hx⟩ := hy
  obtain ⟨w, w1, w2⟩ := h3.get (show (xs.map e)[i]? = some (e b) by rw [List.getElem?_map, hb]; rfl)
  rw [hx] at w1
  cases w1
  exact ⟨S2, hA2.push (w2.mono hA2.base.s0)⟩
theorem wk_tup (hA : At K g Γ σ ((v, .dat (eT e xs)) :: τ) H) (hm : WK K g Γ σ τ xs e Rk) : ∃ a, v = .ref a ∧ (∃ xs, SqT K H a xs) ∧ Rk (Itt K a) H := by
  obtain ⟨S, h⟩ := hA
  obtain ⟨a, vs, rfl, h2, h3⟩ := Hd.t h.top
  have hl : vs.length = xs.length := by rw [h3.len, List.length_map]
  refine ⟨a, rfl, ⟨vs, same_t h.base.sh h2⟩, hm (Itt K a) (fun H => SqT K H a vs) (YAt vs) S H (by rw [← hl]; exact walk_tup) h.base.s0 h.base.fs ⟨S, h.pop.reS⟩ (fun S2 H2 B => same_t B.reS h2) fun i b x H1 H2 Γ' σ' τ' hb hy ⟨S2, hA2⟩ => ?_⟩
  obtain ⟨rfl, hx⟩ := hy
  obtain ⟨w, w1, w2⟩ := h3.get (show (xs.map e)[i]? = some (e b) by rw [List.getElem?_map, hb]; rfl)
  rw [hx] at w1
  cases w1
  exact ⟨S2, hA2.push (w2.mono hA2.base.s0)⟩
theorem wk_rng {a b : Int} (hA : At K g Γ σ τ H) (hm : WK K g Γ σ τ (rangeL a b) eI Rk) : Rk (Itr a (b - a).toNat) H := by
  obtain ⟨S, h⟩ := hA
  refine hm (Itr a (b - a).toNat) (fun _ => True) (YFn fun i => .int (a + i)) S H (by rw [rangeL_len]; exact walk_range) h.base.s0 h.base.fs ⟨S, h.reS⟩ (fun _ _ _ => True.intro) fun i x v H1 H2 Γ' σ' τ' hx hy hA2 => ?_
  obtain ⟨rfl, rfl⟩ := hy
  exact hA2.scal fun _ => by rw [rangeL_get hx]; rfl
theorem f_rng1 {b : Int} {F : List Int → O ρ lam α} (hA : At K g Γ σ ((v, .dat (eI b)) :: τ) H) (hm : Out (bindR (rngR 0 b) F) N T B C E) (k : Out (F (rangeL 0 b)) N T B C E → WK K g Γ σ τ (rangeL 0 b) eI Rk) :
    ∃ j : Int, [v] = [V.int j] ∧ -(2 ^ 62) ≤ j ∧ j < 2 ^ 62 ∧ Rk (Itr 0 j.toNat) H := by
  obtain ⟨hc, q⟩ := rngR_gd hm.bindR
  simp only [Bool.and_eq_true, decide_eq_true_eq] at hc
  obtain ⟨S, h⟩ := id hA
  refine ⟨b, by rw [show v = V.int b from Hd.i h.top], by omega, by omega, ?_⟩
  have := wk_rng (a := 0) (b := b) hA.pop (k q)
  rwa [Int.sub_zero] at this
theorem f_rng2 {a b : Int} {F : List Int → O ρ lam α} (hA : At K g Γ σ ((y, .dat (eI b)) :: (x, .dat (eI a)) :: τ) H) (hm : Out (bindR (rngR a b) F) N T B C E) (k : Out (F (rangeL a b)) N T B C E → WK K g Γ σ τ (rangeL a b) eI Rk) :
    ∃ i j : Int, [x, y] = [V.int i, V.int j] ∧ (-(2 ^ 62) ≤ i ∧ i < 2 ^ 62 ∧ -(2 ^ 62) ≤ j ∧ j < 2 ^ 62) ∧ Rk (Itr i (j - i).toNat) H := by
  obtain ⟨hc, q⟩ := rngR_gd hm.bindR
  simp only [Bool.and_eq_true, decide_eq_true_eq] at hc
  obtain ⟨S, h⟩ := id hA
  exact ⟨a, b, by rw [show y = V.int b from Hd.i h.top, show x = V.int a from Hd.i h.pop.top], by omega, wk_rng (a := a) (b := b) hA.pop.pop (k q)⟩
/-! ### a datum that is walked: list or tuple -/
def iSeqV (K : PySem.W.Frag) (tl : TE) : TI := fun σ H R => tl σ H fun v H1 => (∃ a, v = .ref a ∧ (∃ xs, SqL K H1 a xs) ∧ R (Itl K a) H1) ∨ (∃ a, v = .ref a ∧ (∃ xs, SqT K H1 a xs) ∧ R (Itt K a) H1)
theorem wk_seq {d : PyData} {F : List PyData → O ρ lam α} (hA : At K g Γ σ ((v, .dat (eD d)) :: τ) H) (hm : Out (bindR (itemsD d) F) N T B C E) (k : ∀ xs, Out (F xs) N T B C E → WK K g Γ σ τ xs eD Rk) :
    (∃ a, v = .ref a ∧ (∃ xs, SqL K H a xs) ∧ Rk (Itl K a) H) ∨ (∃ a, v = .ref a ∧ (∃ xs, SqT K H a xs) ∧ Rk (Itt K a) H) :=
  f_items hA hm fun xs h hm => h.elim (fun h => .inl (wk_list h (k xs hm))) fun h => .inr (wk_tup h (k xs hm))
section
variable {Xc : Cx}
open PyProof.Rows in
theorem pi_seqV {tg l : Expr} {tl : TE} (hl : PE Xc l tl) : PI Xc tg l (iSeqV Xc.K tl) := by
  refine ⟨fun pins s σ H R I h => thn (hl.run pins s σ H _ I h) fun w s1 hw => ?_⟩
  obtain ⟨x, H1, I1, r1, q1⟩ := hw
  have fresh : ∀ b ∈ [s1.heap.objs.size], FpOk Xc pins H1 b := fun b hb => by
    have eb : b = s1.heap.objs.size := by simpa using hb
    rw [eb]
    exact I1.fpOk (Nat.le_refl _) (I1.hok.fresh (Nat.le_refl _))
  rcases q1 with ⟨a, ea, ⟨ws, hs⟩, q⟩ | ⟨a, ea, ⟨ws, hs⟩, q⟩
  · rw [ea] at r1
    cases r1
    obtain ⟨its, _, pl, _⟩ := I1.list hs
    exact wpAny_pyIter_list pl.isList ⟨s1.heap.objs.size, [s1.heap.objs.size], _, _, H1, rfl, I1.kept (t' := s1.toks) fun b o hb => Heap.get?_push_of_some _ hb, turn_list a _, ⟨_, Heap.get?_push_size _ rfl, rfl, rfl⟩, fresh, q⟩
  · rw [ea] at r1
    cases r1
    obtain ⟨its, _, pt, _⟩ := I1.tuple hs
    exact wpAny_pyIter_tuple pt ⟨s1.heap.objs.size, [s1.heap.objs.size], _, _, H1, rfl, I1.kept (t' := s1.toks) fun b o hb => Heap.get?_push_of_some _ hb, turn_tuple a _, ⟨_, Heap.get?_push_size _ rfl, rfl, rfl⟩, fresh, q⟩
end
/-! ### for -/
def FR (tg : TG) (tb u : TS) (D : Ends) (σ : St) : It → Hp → Prop := fun J H1 => ∃ W : Nat → Nat → St → Hp → Prop, (∃ m, W 0 m σ H1) ∧ ∀ i m σ H, W i m σ H →
  (J.stop i H ∧ u D σ H) ∨ (J.go i H ∧ ∃ N : St → Hp → Prop, (∀ σ' H', N σ' H' → ∃ m', m' < m ∧ W (i + 1) m' σ' H') ∧ ∀ x H', J.yld i H x H' → tg x σ H' fun σ2 H2 => tb { D with nx := N, ct := N, bk := u D } σ2 H2)
variable {tg : TG} {tb u : TS} {D : Ends} {wi : TI} {tl : TE}
theorem x_for (h : wi σ H (FR tg tb u D σ)) : tSeq (tFor wi tg tb) u D σ H := h
theorem x_forL (h : tl σ H fun v H1 => ∃ a, v = .ref a ∧ (∃ xs, SqL K H1 a xs) ∧ FR tg tb u D σ (Itl K a) H1) : tSeq (tFor (iList K tl) tg tb) u D σ H := h
theorem x_forT (h : tl σ H fun v H1 => ∃ a, v = .ref a ∧ (∃ xs, SqT K H1 a xs) ∧ FR tg tb u D σ (Itt K a) H1) : tSeq (tFor (iTup K tl) tg tb) u D σ H := h
theorem x_forD (h : tl σ H fun v H1 => (∃ a, v = .ref a ∧ (∃ xs, SqL K H1 a xs) ∧ FR tg tb u D σ (Itl K a) H1) ∨ (∃ a, v = .ref a ∧ (∃ xs, SqT K H1 a xs) ∧ FR tg tb u D σ (Itt K a) H1)) : tSeq (tFor (iSeqV K tl) tg tb) u D σ H := h
theorem x_forR1 (h : tl σ H fun v H1 => ∃ j : Int, [v] = [V.int j] ∧ -(2 ^ 62) ≤ j ∧ j < 2 ^ 62 ∧ FR tg tb u D σ (Itr 0 j.toNat) H1) : tSeq (tFor (iRng1 (tCons tl tNil)) tg tb) u D σ H := h
theorem x_forR2 (h : ta σ H fun x H1 => tl σ H1 fun y H2 => ∃ i j : Int, [x, y] = [V.int i, V.int j] ∧ (-(2 ^ 62) ≤ i ∧ i < 2 ^ 62 ∧ -(2 ^ 62) ≤ j ∧ j < 2 ^ 62) ∧ FR tg tb u D σ (Itr i (j - i).toNat) H2) : tSeq (tFor (iRng2 (tCons ta (tCons tl tNil))) tg tb) u D σ H := h
/-- a for whose items are told; hb: the target and the body -/
theorem f_for {sT : Type} {f : sT → β → O ρ sT sT} {s0 : sT} {k : sT → O ρ lam α} {n : α → List (Option Tm)} {b c : lam → List (Option Tm)} (Gl : sT → List (Option Tm)) (h0 : Le (Gl s0) Γ)
    (hm : Out ((forO f xs s0).bind k) (NxW K g n D.nx) (RtW K g X D.rt) (NxW K g b D.bk) (NxW K g c D.ct) (ErW K g X))
    (hb : ∀ s y (g : Gh) (σ : St) (H : Hp) (D : Ends) (x : V), At K g (Gl s) σ [(x, .dat (e y))] H → Out (f s y) (NxW K g Gl D.nx) (RtW K g X D.rt) (NxW K g Gl D.bk) (NxW K g Gl D.ct) (ErW K g X) → tg x σ H (tb D))
    (hr : ∀ s, BJ K X (Gl s) u (k s) n b c) : WK K g Γ σ [] xs e (FR tg tb u D σ) := fun J Gd Y S1 H' w es ef hA' hG hY => by
  have q2 := hm.bind
  refine for_it (D := { D with nx := u D }) w (fun i σ H => ∃ s, At K ⟨S1, g.F⟩ (Gl s) σ [] H ∧ Out (forO f (xs.drop i) s : O ρ lam sT) (fun s' => ∀ σ' H', At K ⟨S1, g.F⟩ (Gl s') σ' [] H' → u D σ' H') (RtW K ⟨S1, g.F⟩ X D.rt) (fun l => NxW K g b D.bk l) (fun l => NxW K g c D.ct l) (ErW K ⟨S1, g.F⟩ X))
    ⟨s0, hA'.weak h0, ?_⟩ (fun i σ H _ ⟨s, ⟨S2, h2⟩, _⟩ => hG S2 H h2.base) ?_ ?_
  · rw [List.drop_zero]
    refine q2.imp (fun s' q3 σ' H' h' => hr s' g σ' H' D (h'.unS es ef) q3) (fun r q3 v H' σ' h' => q3 v H' σ' (h'.unS es ef)) (fun _ q3 => q3) (fun _ q3 => q3) (fun x q3 => q3.unS es ef)
  · rintro i x σ H H' hi ⟨s, hA2, q3⟩ hy
    have hx : xs[i]? = some xs[i] := List.getElem?_eq_getElem hi
    rw [List.drop_eq_getElem_cons hi] at q3
    have q4 := forO_out q3
    exact hb s xs[i] ⟨S1, g.F⟩ σ H' _ x (hY i _ x H H' _ _ _ hx hy hA2) (q4.imp (fun s' q5 σ' H' h' => ⟨s', h', q5⟩) (fun _ q5 => q5) (fun s' q5 σ' H' h' => q5 σ' H' h') (fun s' q5 σ' H' h' => ⟨s', h', q5⟩) fun _ q5 => q5)
  · rintro σ H ⟨s, hA2, q3⟩
    rw [List.drop_length] at q3
    exact q3 σ H hA2
/-- a target whose parts are told -/
theorem hb_of {sT : Type} {f : sT → β → O ρ sT sT} {js : List Nat} {ps : β → List VP} {Gl : sT → List (Option Tm)} (ht : ∀ b, TJ K tg (e b) js (ps b)) (hj : ∀ s, ∀ j ∈ js, j < (Gl s).length)
    (hb : ∀ s b, BJ K X (setG (Gl s) js (ps b)) tb (f s b) Gl Gl Gl) : ∀ s y (g : Gh) (σ : St) (H : Hp) (D : Ends) (x : V), At K g (Gl s) σ [(x, .dat (e y))] H → Out (f s y) (NxW K g Gl D.nx) (RtW K g X D.rt) (NxW K g Gl D.bk) (NxW K g Gl D.ct) (ErW K g X) → tg x σ H (tb D) :=
  fun s y g σ H D x hA hm => (ht y).2 g (Gl s) σ [] H x _ (hj s) (fun y hy => (by cases hy)) hA fun vs H2 _ hA3 => hb s y g _ H2 _ hA3 hm
/-! ### a while's test that is no plain one -/
theorem cj_fwd {sT : Type} {tt : TT} {cn : sT → R (sT × Bool)} {Gl : sT → List (Option Tm)} (h : ∀ s g σ H (Q : Bool → Hp → Prop), At K g (Gl s) σ [] H → Out (cn s) (fun sb => ∀ H', At K g (Gl sb.1) σ [] H' → Q sb.2 H') (fun _ => True) (fun _ => True) (fun _ => True) (ErW K g X) → tt σ H Q) :
    ∀ s g σ H (Q : Bool → Hp → Prop), At K g (Gl s) σ [] H → OutR (cn s) (fun sb => ∀ H', At K g (Gl sb.1) σ [] H' → Q sb.2 H') (ErW K g X) → tt σ H Q := fun s g σ H Q hA hm => h s g σ H Q hA hm.out
/-! ### comprehensions -/
def LR (tg : TG) (tt : TT) (te : TE) (vs : List Nat) (σ : St) (Q : VK) : It → Hp → Prop := fun J H1 => ∀ D, H1 D = none → ∃ W : Nat → Nat → Hp → Prop, (∃ m, W 0 m (upd H1 D (.lst []))) ∧ ∀ i m H, W i m H →
  (J.stop i H ∧ Q (.ref D) H) ∨ (J.go i H ∧ ∃ Nx : Hp → Prop, (∀ H', Nx H' → ∃ m', m' < m ∧ W (i + 1) m' H') ∧ ∀ x H', J.yld i H x H' → tg x (wipe σ vs) H' fun σ2 H2 => wipe σ2 vs = wipe σ vs ∧ tt σ2 H2 fun b H3 =>
    if b = true then te σ2 H3 fun y H4 => ∃ acc, H4 D = some (.lst acc) ∧ acc.length < sizeLine ∧ Nx (upd H4 D (.lst (acc ++ [y]))) else Nx H3)
variable {tt : TT} {vs : List Nat}
theorem x_lc (h : wi σ H (LR tg tt te vs σ Q)) : tLc wi tg tt te vs σ H Q := h
theorem x_lcL (h : tl σ H fun v H1 => ∃ a, v = .ref a ∧ (∃ xs, SqL K H1 a xs) ∧ LR tg tt te vs σ Q (Itl K a) H1) : tLc (iList K tl) tg tt te vs σ H Q := h
theorem x_lcT (h : tl σ H fun v H1 => ∃ a, v = .ref a ∧ (∃ xs, SqT K H1 a xs) ∧ LR tg tt te vs σ Q (Itt K a) H1) : tLc (iTup K tl) tg tt te vs σ H Q := h
theorem x_lcD (h : tl σ H fun v H1 => (∃ a, v = .ref a ∧ (∃ xs, SqL K H1 a xs) ∧ LR tg tt te vs σ Q (Itl K a) H1) ∨ (∃ a, v = .ref a ∧ (∃ xs, SqT K H1 a xs) ∧ LR tg tt te vs σ Q (Itt K a) H1)) : tLc (iSeqV K tl) tg tt te vs σ H Q := h
theorem x_lcR1 (h : tl σ H fun v H1 => ∃ j : Int, [v] = [V.int j] ∧ -(2 ^ 62) ≤ j ∧ j < 2 ^ 62 ∧ LR tg tt te vs σ Q (Itr 0 j.toNat) H1) : tLc (iRng1 (tCons tl tNil)) tg tt te vs σ H Q := h
theorem x_lcR2 (h : ta σ H fun x H1 => tl σ H1 fun y H2 => ∃ i j : Int, [x, y] = [V.int i, V.int j] ∧ (-(2 ^ 62) ≤ i ∧ i < 2 ^ 62 ∧ -(2 ^ 62) ≤ j ∧ j < 2 ^ 62) ∧ LR tg tt te vs σ Q (Itr i (j - i).toNat) H2) : tLc (iRng2 (tCons ta (tCons tl tNil))) tg tt te vs σ H Q := h
theorem f_lcW {sT : Type} {js : List Nat} {ps : β → List VP} {enc : γ → VP} {f : sT → β → R (sT × Option γ)} {F : sT × List γ → O ρ lam α} (Gl : sT → List (Option Tm)) (s0 : sT) (ht : ∀ b, TJ K tg (e b) js (ps b)) (nd : js.Nodup)
    (hn : ∀ s, ∀ j ∈ js, (Gl s)[j]? = some none) (hv : ∀ s, ∀ j ∈ vs, (Gl s)[j]? = some none) (hsub : ∀ j ∈ js, j ∈ vs) (hl : LJ K Gl js ps enc tt te f)
    (hm : Out (bindR (lcR f xs s0 []) F) N T B C E) (k : ∀ r v H', At K g (Gl r.1) σ ((v, oL enc r.2) :: τ) H' → Out (F r) N T B C E → Q v H') : WK K g (Gl s0) σ τ xs e (LR tg tt te vs σ Q) := fun J Gd Y S1 H' w es ef hA' hG hY => by
  have hm2 : OutR (lcR f xs s0 []) (fun r => ∀ v H', At K g (Gl r.1) σ ((v, oL enc r.2) :: τ) H' → Q v H') E := hm.bindR.imp (fun r q v H' h' => k r v H' h' q) fun _ q => q
  have hi : ∀ Rk : It → Hp → Prop, Rk = LR tg tt te vs σ Q → Rk J H' := fun Rk eR => by
    subst eR
    have two : tLc (fun _ _ R => R J H') tg tt te vs σ H' Q := by
      show ∀ D, H' D = none → _
      intro D hD
      refine lc_it w (fun i H => ∃ s acc, At K ⟨S1, g.F⟩ (Gl s) σ ((.ref D, .own (some D) (.lst (acc.map enc))) :: τ) H ∧ OutR (lcR f (xs.drop i) s acc) (fun r => ∀ v H', At K g (Gl r.1) σ ((v, oL enc r.2) :: τ) H' → Q v H') E)
        ⟨s0, [], ?_, by rw [List.drop_zero]; exact hm2⟩ (fun i H _ ⟨s, acc, ⟨S2, h2⟩, _⟩ => hG S2 H h2.base) ?_ ?_
      · obtain ⟨S, h⟩ := hA'
        exact ⟨S, h.freshA (fun b z => (Option.some.inj z).symm) hD ⟨[], rfl, .nil⟩⟩
      · rintro i x H H' hi ⟨s, acc, hA2, q3⟩ hy
        have hx : xs[i]? = some xs[i] := List.getElem?_eq_getElem hi
        rw [List.drop_eq_getElem_cons hi] at q3
        have q4 := lcR_out q3
        have hA3 : At K ⟨S1, g.F⟩ (Gl s) (wipe σ vs) ((.ref D, .own (some D) (.lst (acc.map enc))) :: τ) H := by
          obtain ⟨S, h⟩ := hA2
          exact ⟨S, h.slots (fun j t ej => wipe_get fun z => by rw [hv s j z] at ej; cases ej) (by rw [wipe_length]; exact h.len)⟩
        have hal : ∀ y ∈ (V.ref D, Tm.own (some D) (.lst (acc.map enc))) :: τ, ∀ k, y.2 = Tm.als k → k ∉ js := fun y hy k ek hk => by
          obtain ⟨S, h⟩ := hA2
          obtain ⟨oa, c, q⟩ := h.al y hy k ek
          rw [hn s k hk] at q; cases q
        refine (ht xs[i]).2 ⟨S1, g.F⟩ (Gl s) (wipe σ vs) _ H' x _ (fun j hj => (List.getElem?_eq_some_iff.mp (hn s j hj)).1) hal (hY i _ x H H' _ _ _ hx hy hA3) fun ws H2 _ hA4 => ⟨wipe_set hsub, ?_⟩
        have back : ∀ {s' : sT} {τ' : List (V × Tm)} {H3 : Hp}, At K ⟨S1, g.F⟩ (setG (Gl s') js (ps xs[i])) (setS (wipe σ vs) js ws) τ' H3 → At K ⟨S1, g.F⟩ (Gl s') σ τ' H3 := fun {s' τ' H3} ⟨S, h⟩ => by
          have h5 := forget nd (hn s') h
          have hlen : (Gl s').length ≤ σ.length := by
            have := h5.len
            rw [setS_len, wipe_length] at this
            exact this
          exact ⟨S, h5.slots (fun j t ej => by
            have n1 : j ∉ js := fun z => by rw [hn s' j z] at ej; cases ej
            have n2 : j ∉ vs := fun z => by rw [hv s' j z] at ej; cases ej
            rw [setS_get n1, wipe_get n2]) hlen⟩
        have := hl s xs[i] ⟨S1, g.F⟩ (setS (wipe σ vs) js ws) _ H2 (fun o H4 => match o with
          | none => ∃ s acc, At K ⟨S1, g.F⟩ (Gl s) σ ((.ref D, .own (some D) (.lst (acc.map enc))) :: τ) H4 ∧ OutR (lcR f (xs.drop (i + 1)) s acc) (fun r => ∀ v H', At K g (Gl r.1) σ ((v, oL enc r.2) :: τ) H' → Q v H') E
          | some y => ∃ acc, H4 D = some (.lst acc) ∧ acc.length < sizeLine ∧ ∃ s acc', At K ⟨S1, g.F⟩ (Gl s) σ ((.ref D, .own (some D) (.lst (acc'.map enc))) :: τ) (upd H4 D (.lst (acc ++ [y]))) ∧ OutR (lcR f (xs.drop (i + 1)) s acc') (fun r => ∀ v H', At K g (Gl r.1) σ ((v, oL enc r.2) :: τ) H' → Q v H') E) hA4 (q4.imp (fun r q5 => ?_) fun _ q5 => q5)
        · exact this
        · obtain ⟨s1, o⟩ := r
          cases o with
          | none => exact fun H4 h4 => ⟨s1, acc, back h4, q5⟩
          | some y =>
            intro v H4 h4
            obtain ⟨q6, q7⟩ := q5
            obtain ⟨S, h5⟩ := back h4
            have hv5 : Hd K (enc y) v S := h5.top
            obtain ⟨a, o, e1, e2, _, _, e3, vs3, rfl, d3⟩ := h5.pop.top
            cases e1
            obtain ⟨o2, _, _, h6⟩ := h5.pop.writeT (c' := .lst ((acc ++ [y]).map enc)) (o' := .lst (vs3 ++ [v])) ⟨_, rfl, by rw [List.map_append]; exact d3.append (.cons hv5 .nil)⟩
            exact ⟨vs3, e3, by rw [d3.len, List.length_map]; exact lt_line q6, s1, acc ++ [y], ⟨S, h6⟩, q7⟩
      · rintro H ⟨s, acc, hA2, q3⟩
        rw [List.drop_length] at q3
        obtain ⟨S, h⟩ := hA2
        exact q3 (.ref D) H (At.unS ⟨S, h.oaNone⟩ es ef)
    exact two
  exact hi _ rfl
/-- what an item gives, told on the way -/
theorem lj_fwd {sT : Type} {js : List Nat} {ps : β → List VP} {enc : γ → VP} {f : sT → β → R (sT × Option γ)} {Gl : sT → List (Option Tm)}
    (h : ∀ s b g σ τ H (Q : VK) (Qn : Hp → Prop), At K g (setG (Gl s) js (ps b)) σ τ H → Out (f s b) (fun r => match r.2 with
      | none => ∀ H', At K g (setG (Gl r.1) js (ps b)) σ τ H' → Qn H'
      | some y => ∀ v H', At K g (setG (Gl r.1) js (ps b)) σ ((v, .dat (enc y)) :: τ) H' → Q v H') (fun _ => True) (fun _ => True) (fun _ => True) (fun _ => False) → tt σ H fun b H3 => if b = true then te σ H3 Q else Qn H3) : LJ K Gl js ps enc tt te f :=
  fun s b g σ τ H Q hA hm => h s b g σ τ H (fun y H4 => Q (some y) H4) (Q none) hA (hm.out.imp (fun r q => by
    cases e : r.2 with
    | none => rw [e] at q; exact q
    | some y => rw [e] at q; exact q) (fun _ q => q) (fun _ q => q) (fun _ q => q) fun _ q => q)
theorem x_yes {P : Hp → Prop} {Q' : Hp → Prop} (h : P H) : tYes σ H fun b H3 => if b = true then P H3 else Q' H3 := by
  show if true = true then P H else Q' H
  rw [if_pos rfl]
  exact h
/-! ### unpacking -/
/-- a list or a tuple of these -/
def eW (ps : List VP) : VP := fun K v S => rL ps K v S ∨ rT ps K v S
theorem eW_hd {S : Hp} {ps : List VP} (h : Hd K (eW ps) v S) : Hd K (rL ps) v S ∨ Hd K (rT ps) v S := by
  obtain ⟨S0, e, q⟩ := h
  exact q.elim (fun q => .inl ⟨S0, e, q⟩) fun q => .inr ⟨S0, e, q⟩
theorem eW_l {S : Hp} {ps : List VP} (h : Hd K (rL ps) v S) : Hd K (eW ps) v S := by
  obtain ⟨S0, e, q⟩ := h
  exact ⟨S0, e, .inl q⟩
theorem eW_t {S : Hp} {ps : List VP} (h : Hd K (rT ps) v S) : Hd K (eW ps) v S := by
  obtain ⟨S0, e, q⟩ := h
  exact ⟨S0, e, .inr q⟩
def unp2 (d : PyData) : R (PyData × PyData) := bindR (itemsD d) fun xs => match xs with
  | [a, b] => .nx (a, b)
  | _ => .stuck
def unp3 (d : PyData) : R (PyData × PyData × PyData) := bindR (itemsD d) fun xs => match xs with
  | [a, b, c] => .nx (a, b, c)
  | _ => .stuck
theorem unp3_out {d : PyData} {f : PyData × PyData × PyData → O ρ lam α} (h : Out (bindR (unp3 d) f) N T B C E) : ∃ a b c, (d = .list [a, b, c] ∨ d = .tuple [a, b, c]) ∧ Out (f (a, b, c)) N T B C E := by
  cases d with
  | list xs =>
    match xs, h with
    | [a, b, c], h => exact ⟨a, b, c, .inl rfl, h⟩
    | [], h => exact h.elim
    | [_], h => exact h.elim
    | [_, _], h => exact h.elim
    | _ :: _ :: _ :: _ :: _, h => exact h.elim
  | tuple xs =>
    match xs, h with
    | [a, b, c], h => exact ⟨a, b, c, .inr rfl, h⟩
    | [], h => exact h.elim
    | [_], h => exact h.elim
    | [_, _], h => exact h.elim
    | _ :: _ :: _ :: _ :: _, h => exact h.elim
  | _ => exact h.elim
theorem f_unp3 {d : PyData} {f : PyData × PyData × PyData → O ρ lam α} {P : Prop} (hA : At K g Γ σ ((v, .dat (eD d)) :: τ) H) (hm : Out (bindR (unp3 d) f) N T B C E) (k : ∀ q, At K g Γ σ ((v, .dat (eW [eD q.1, eD q.2.1, eD q.2.2])) :: τ) H → Out (f q) N T B C E → P) : P := by
  obtain ⟨a, b, c, h | h, q⟩ := unp3_out hm
  · subst h
    exact k (a, b, c) (hA.box fun v S q => eW_l (eD_list q)) q
  · subst h
    exact k (a, b, c) (hA.box fun v S q => eW_t (eD_tup q)) q
theorem hds_set {S : Hp} {p q : VP} {ps : List VP} : ∀ {ps : List VP} {vs : List V} (j : Nat), Hds K S ps vs → (∀ w, ps[j]? = some p → Hd K p w S → Hd K q w S) → ps[j]? = some p → Hds K S (ps.set j q) vs
  | _, _, 0, .cons r t, h, e => .cons (h _ e (by cases e; exact r)) t
  | _, _, j + 1, .cons r t, h, e => .cons r (hds_set (ps := ps) j t (fun w e' => h w (by simpa using e')) (by simpa using e))
theorem At.boxW {p q : VP} {ps : List VP} (j : Nat) (e : ps[j]? = some p) (hb : ∀ w S, Hd K p w S → Hd K q w S) (h : At K g Γ σ ((v, .dat (eW ps)) :: τ) H) : At K g Γ σ ((v, .dat (eW (ps.set j q))) :: τ) H := h.box fun v S z => by
  rcases eW_hd z with z | z
  · obtain ⟨a, vs, rfl, h2, h3⟩ := Hd.l z
    exact eW_l (.of ⟨a, vs, rfl, h2, hds_set (ps := ps) j h3 (fun w _ => hb w S) e⟩)
  · obtain ⟨a, vs, rfl, h2, h3⟩ := Hd.t z
    exact eW_t (.of ⟨a, vs, rfl, h2, hds_set (ps := ps) j h3 (fun w _ => hb w S) e⟩)
/-- the j-th is an int -/
theorem f_wint (j : Nat) {d : PyData} {ps : List VP} {f : Int → O ρ lam α} {P : Prop} (e : ps[j]? = some (eD d)) (hA : At K g Γ σ ((v, .dat (eW ps)) :: τ) H) (hm : Out (bindR (intD d) f) N T B C E) (k : ∀ i, At K g Γ σ ((v, .dat (eW (ps.set j (eI i)))) :: τ) H → Out (f i) N T B C E → P) : P := by
  cases d with
  | int i => exact k i (hA.boxW j e fun w S q => eD_int q) hm
  | _ => exact hm.elim
def gSeq (K : PySem.W.Frag) (n : Nat) (t : TGs) : TG := fun v σ H Q => gTup K n t v σ H Q ∨ gLst K n t v σ H Q
theorem pg_seq {Xc : Cx} {pos : Pos} {es : List Expr} {k : Nat} {t : TGs} {n : Nat} (hc : Xc.calm = true) (h : PGs Xc es t)
    (hn : (assignEach es Xc.env).length = n := by rfl) (hst : (assignEach es Xc.env).findIdx? (·.1) = none := by rfl) : PG Xc (.Tuple es k pos) (gSeq Xc.K n t) := by
  refine ⟨fun pins s σ H v u Q I r hw => ?_⟩
  rcases hw with hw | hw
  · exact (pg_tup hc h hn hst).run pins s σ H v u Q I r hw
  · exact (pg_lst hc h hn hst).run pins s σ H v u Q I r hw
theorem tj_seq {n : Nat} {tgs : TGs} {qs ps : List VP} {js : List Nat} (h : TJs K tgs qs js ps) (hn : qs.length = n) : TJ K (gSeq K n tgs) (eW qs) js ps := ⟨h.1, fun g Γ σ τ H x Q hi hτ ⟨S, hA⟩ k => by
  rcases eW_hd hA.top with z | z
  · obtain ⟨a, vs, rfl, h2, h3⟩ := Hd.l z
    exact .inr ⟨a, vs, rfl, hA.base.sh.seq h2, by rw [h3.len, hn], h.2 g Γ σ τ H vs Q hi hτ h3.len ⟨S, hA.pop.pushes h3⟩ k⟩
  · obtain ⟨a, vs, rfl, h2, h3⟩ := Hd.t z
    exact .inl ⟨a, vs, rfl, same_t hA.base.sh h2, by rw [h3.len, hn], h.2 g Γ σ τ H vs Q hi hτ h3.len ⟨S, hA.pop.pushes h3⟩ k⟩⟩
/-! ### a slice of a datum -/
def rSlQ (K : PySem.W.Frag) : V → Option Int → Option Int → Hp → VK → Prop := fun x lo hi H Q => rSlL K x lo hi H Q ∨ rSlA K x lo hi H Q
theorem sl_q {Xc : Cx} (hc : Xc.calm = true := by rfl) : SlR Xc (rSlQ Xc.K) := SlR.or sl_list sl_tupA
def cutD (d : PyData) (lo hi : Option Int) : R PyData := match d with
  | .list xs => .nx (.list (cutL xs lo hi))
  | .tuple xs => .nx (.tuple (cutL xs lo hi))
  | _ => .stuck
theorem f_cutD {d : PyData} {lo hi : Option Int} {f : PyData → O ρ lam α} (hA : At K g Γ σ ((v, .dat (eD d)) :: τ) H) (hm : Out (bindR (cutD d lo hi) f) N T B C E) (k : ∀ c v H', At K g Γ σ ((v, .dat (eD c)) :: τ) H' → Out (f c) N T B C E → Q v H') : rSlQ K v lo hi H Q := by
  cases d with
  | list xs =>
    refine .inl (o1_cutLT (xs := xs) (e := eD) .dat g σ τ H v Q (hA.box fun v S q => eD_list q) fun w H' h' => k _ w H' (h'.frz.box fun v S q => ?_) hm)
    have z := bx_l bx_d K _ v S q
    rw [dL, List.map_id] at z
    exact .of z
  | tuple xs =>
    refine .inr (o1_cutTT (xs := xs) (e := eD) g σ τ H v Q (hA.box fun v S q => eD_tup q) fun w H' h' => k _ w H' (h'.box fun v S q => ?_) hm)
    have z := bx_t bx_d K _ v S q
    rw [dT, List.map_id] at z
    exact .of z
  | _ => exact hm.elim
theorem x_sl {r : V → Option Int → Option Int → Hp → VK → Prop} {t1 t2 : TO} (h : te σ H fun x H1 => t1 σ H1 fun l H2 => t2 σ H2 fun u H3 => r x l u H3 Q) : tSl r te t1 t2 σ H Q := h
end
end Gv

set_option Elab.async false
set_option linter.all false
set_option maxRecDepth 100000
set_option maxHeartbeats 2000000
/-! Gv: what a text's top gives; small helps for printed proofs -/
namespace Gv
open PySem L2
section
variable {K : PySem.W.Frag} {ρ lam α β γ : Type} {X : Fx ρ} {Γ : List (Option Tm)} {g : Gh} {H : Hp} {σ : St} {τ : List (V × Tm)} {v x y : V} {t u z : Tm} {i j : Nat} {ta tb tc te : TE} {r r' : R2} {Q : VK} {N : α → Prop} {T : ρ → Prop} {B C : lam → Prop} {E : Er → Prop}
theorem dpt_d {d : PyData} : DpT K Γ (.dat (eD d)) d := DpT.dat (e := eD) (d := id) (x := d) bx_d
theorem hjl {sT : Type} {Gl : sT → List (Option Tm)} {js : List Nat} {n : Nat} (h1 : ∀ s, (Gl s).length = n) (h2 : js.all (fun j => decide (j < n)) = true) : ∀ s, ∀ j ∈ js, j < (Gl s).length := fun s j hj => by
  rw [h1 s]
  exact of_decide_eq_true (List.all_eq_true.mp h2 j hj)
def isNn (G : List (Option Tm)) (j : Nat) : Bool := match G[j]? with
  | some none => true
  | _ => false
theorem hnl {sT : Type} {Gl : sT → List (Option Tm)} {js : List Nat} (h : ∀ s, js.all (isNn (Gl s)) = true) : ∀ s, ∀ j ∈ js, (Gl s)[j]? = some none := fun s j hj => by
  have q := List.all_eq_true.mp (h s) j hj
  unfold isNn at q
  split at q
  · assumption
  · cases q
/-- a, b = x, y -/
theorem x_par {u : TS} {D : Ends} (h : ta σ H fun x H1 => tb σ H1 fun y H2 => u D ((σ.set i (some x)).set j (some y)) H2) : tSeq (tPar i j (tCons ta (tCons tb tNil))) u D σ H := by
  show ta σ H fun x H1 => tb σ H1 fun y H2 => ∃ v w, [x, y] = [v, w] ∧ u D ((σ.set i (some v)).set j (some w)) H2
  have e : (fun x H1 => tb σ H1 fun y H2 => ∃ v w, [x, y] = [v, w] ∧ u D ((σ.set i (some v)).set j (some w)) H2) = fun x H1 => tb σ H1 fun y H2 => u D ((σ.set i (some x)).set j (some y)) H2 := by
    funext x H1
    congr 1
    funext y H2
    apply propext
    constructor
    · rintro ⟨v, w, e, q⟩
      cases e
      exact q
    · exact fun q => ⟨x, y, rfl, q⟩
  rw [e]
  exact h
theorem At.setW (h : At K g Γ σ ((y, u) :: (x, t) :: []) H) (hu : ∀ j, u ≠ .als j) (ht : ∀ j, t ≠ .als j) (hj : j < Γ.length) (hi : i < Γ.length) (hij : i ≠ j) : At K g ((Γ.set i (some t)).set j (some u)) ((σ.set i (some x)).set j (some y)) [] H := by
  obtain ⟨S, h⟩ := h
  have h1 := h.set (i := j) hj hu (fun q hq k ek => by
    have : q = (x, t) := by simpa using hq
    subst this
    exact absurd ek (ht k))
  have h2 := h1.set (i := i) (by rw [List.length_set]; exact hi) ht (fun q hq => nomatch hq)
  rw [List.set_comm _ _ (Ne.symm hij), List.set_comm _ _ (Ne.symm hij)] at h2
  exact ⟨S, h2⟩
theorem f_par {n : α → List (Option Tm)} {b c : lam → List (Option Tm)} {m : O ρ lam α} {us : TS} {D : Ends} (hA : At K g Γ σ ((y, u) :: (x, t) :: []) H) (hu : ∀ j, u ≠ .als j) (ht : ∀ j, t ≠ .als j) (hj : j < Γ.length) (hi : i < Γ.length) (hij : i ≠ j)
    (hm : Out m (NxW K g n D.nx) (RtW K g X D.rt) (NxW K g b D.bk) (NxW K g c D.ct) (ErW K g X)) (h : BJ K X ((Γ.set i (some t)).set j (some u)) us m n b c) : us D ((σ.set i (some x)).set j (some y)) H := h g _ H D (hA.setW hu ht hj hi hij) hm
theorem x_gsub {to ti : TE} {ts : TSet} {Q : St → Hp → Prop} (h : to σ H fun o H1 => ti σ H1 fun i H2 => ts o i v H2 fun H3 => Q σ H3) : gSub to ti ts v σ H Q := h
theorem f_setm {e : β → VP} {xs : List β} {k : Int} {a : β} {x y z : V} {oa : Option Addr} {Q : Hp → Prop} {f : List β → O ρ lam α} (hg : Γ[i]? = some (some (.own oa (.lst (xs.map e))))) (hA : At K g Γ σ ((y, .dat (eI k)) :: (x, .als i) :: (z, .dat (e a)) :: τ) H)
    (hm : Out (bindR (setR xs k a) f) N T B C E) (kk : ∀ ys H', At K g (Γ.set i (some (.own oa (.lst (ys.map e))))) σ τ H' → Out (f ys) N T B C E → Q H') : rSetL x y z H Q :=
  f_set hg hA (hm.bindR.imp (fun ys q H' h' => kk ys H' h' q) fun _ q => q)
theorem f_appm {e : β → VP} {xs : List β} {a : β} {x y : V} {oa : Option Addr} {f : List β → O ρ lam α} (hg : Γ[i]? = some (some (.own oa (.lst (xs.map e))))) (hA : At K g Γ σ ((y, .dat (e a)) :: (x, .als i) :: τ) H)
    (hm : Out (bindR (appR xs a) f) N T B C E) (kk : ∀ ys H', At K g (Γ.set i (some (.own oa (.lst (ys.map e))))) σ τ H' → Out (f ys) N T B C E → Q .non H') : rAppend x [y] H Q :=
  f_app hg hA (hm.bindR.imp (fun ys q H' h' => kk ys H' h' q) fun _ q => q)
theorem x_app {rr : V → List V → Hp → VK → Prop} {xs : List β} {e : β → VP} {oa : Option Addr} (hg : Γ[i]? = some (some (.own oa (.lst (xs.map e))))) (hA : At K g Γ σ τ H) (h : ∀ x H1, At K g Γ σ ((x, .als i) :: τ) H1 → ta σ H1 fun y H2 => rr x [y] H2 Q) : tBM K "list" rr (tVar i) (tCons ta tNil) σ H Q :=
  x_bm1 <| ev_own hg g σ τ H _ hA fun x H1 ⟨S, h1⟩ => ⟨h1.tyL List.mem_cons_self (.als hg), h x H1 ⟨S, h1⟩⟩
end
/-! ### the text's top -/
structure Df (K : PySem.W.Frag) (mg : Str → Option Value) (x : Str) (st : Stmt) (f : Addr) (fd : FuncData) (pn : List Str) : Prop where
  F : Fun K x x st f fd
  g : mg x = some (.ref f)
  b : Binds K fd pn []
structure Ex1 (K : PySem.W.Frag) (mg : Str → Option Value) (cn q : Str) (fld : List Str) (st : Stmt) (C fI : Addr) (fd : FuncData) : Prop where
  oex : OexC K C
  g : mg cn = some (.ref C)
  iC : PySem.W.findIn K (.ref C) "__init__" = some (some (.ref fI))
  tI : PySem.W.typeIn K (.ref fI) = some (.type "function")
  F : Fun K "__init__" q st fI fd
  b : Binds K fd ("self" :: fld) []
  no : ∀ f ∈ fld, PySem.W.findIn K (.ref C) f = some none
  xf : XfC K C
end Gv

set_option Elab.async false
set_option linter.all false
set_option maxRecDepth 100000
set_option maxHeartbeats 2000000
/-! Gv: enumerate of a list or tuple; sorted pairs -/
namespace Gv
open PySem L2 PyProof.Rows
open Sem (wp)
/-! ### enumerate(v): its two cells -/
theorem meets_enum1 {v : Value} {o : Obj} {Hh : Heap → Prop} (B : Begins v o Hh) :
    Meets (Builtin.«enumerate.__new__» ⟨[.type "enumerate", v], []⟩) (fun _ R s => Hh s.heap ∧
      R (.ok (.ret (.ref (s.heap.push o).objs.size))) { s with heap := (s.heap.push o).push { cls := .type "enumerate", data := .fields #[.none, .bool false, .ref s.heap.objs.size, rawInt 0, .none, .none] } }) := by
  refine .of_wp fun prog w A R s h => ?_
  obtain ⟨hp, g, d, tk, os⟩ := s
  obtain ⟨h1, h⟩ := h
  have hs := sub_enumerate
  have q1 : ∀ {A2 : Around} {E : Value → Shared → Prop} {Q : Value → Shared → Prop}, Q (.ref hp.objs.size) ⟨hp.push o, g, d, tk, os⟩ → wpAny (model prog w) A2 (pyIter v) Q E ⟨hp, g, d, tk, os⟩ := fun q => B.iter prog w _ _ ⟨hp, g, d, tk, os⟩ _ h1 q
  wp_walk using q1
  refine wpAny_stack_any fun st => wpAny_pure ?_
  split
  · rename_i c _ _ _ _ _
    cases (c == Value.type "enumerate") <;> (wp_walk using q1; exact ⟨_, rfl, h⟩)
  · wp_walk using q1
    exact ⟨_, rfl, h⟩
theorem enum1_call {prog : Program} {w : World} {A : Around} {E : Value → Shared → Prop} {s : Shared} {v : Value} {o : Obj} {Hh : Heap → Prop} {Q : Value → Shared → Prop} (B : Begins v o Hh) (h1 : Hh s.heap)
    (h : ∀ h', IsEnum h' (s.heap.objs.size + 1) s.heap.objs.size 0 .none → h'.get? s.heap.objs.size = some o → (∀ b o, s.heap.get? b = some o → h'.get? b = some o) → Q (.ref (s.heap.objs.size + 1)) { s with heap := h' }) :
    wpAny (model prog w) A (call (.type "enumerate") [v]) Q E s := by
  refine callType_new F.called_enumerate (by decide) (F.typeCall_enumerate_1 _) (F.newCall_enumerate_1 _) (fun obj => F.args_object_init_2 obj _) F.entry_enumerate_new (meets_enum1 B) ⟨h1, ?_⟩
  have z : (s.heap.push o).objs.size = s.heap.objs.size + 1 := Heap.size_push ..
  show _ ∧ _
  rw [z]
  have e1 : IsEnum ((s.heap.push o).push { cls := .type "enumerate", data := .fields #[.none, .bool false, .ref s.heap.objs.size, rawInt 0, .none, .none] }) (s.heap.objs.size + 1) s.heap.objs.size 0 .none := by
    have q := Heap.get?_push_size (s.heap.push o) (o := { cls := .type "enumerate", data := .fields #[.none, .bool false, .ref s.heap.objs.size, rawInt 0, .none, .none] }) rfl
    rw [z] at q
    exact q
  exact ⟨⟨_, e1, rfl⟩, h _ e1 (Heap.get?_push_of_some _ (Heap.get?_push_size _ B.free)) fun b o q => Heap.get?_push_of_some _ (Heap.get?_push_of_some _ q)⟩
/-- the tuple at a, each item in a new pair -/
def IteT (K : PySem.W.Frag) (a : Addr) : It :=
  ⟨fun i H => ∃ (xs : List V) (x : V), SqT K H a xs ∧ xs[i]? = some x, fun i H v H' => ∃ T x, v = .ref T ∧ H T = none ∧ H' = upd H T (.tup [.int (i : Nat), x]) ∧ ∀ xs, SqT K H a xs → xs[i]? = some x, fun i H => ∃ xs : List V, SqT K H a xs ∧ xs.length ≤ i⟩
theorem turn_enumT {P : Program} {w : World} {K : PySem.W.Frag} {elts : List Expr} {kk : Nat} {tpos : Pos} (a e it : Addr) :
    Turn P w K (.Tuple elts kk tpos) (IteT K a) [e, it] e (fun i h => (∃ old, IsEnum h e it ((i : Nat) : Int) old) ∧ h.IsTupleIter it a i ∧ e ≠ it) := by
  have apart : ∀ {h : Heap} {i : Nat} {c : Int} {old : Value} {its : Array Value}, IsEnum h e it c old → h.IsTupleIter it a i → h.IsTuple a its → e ∉ [it, a] ∨ e = it := fun {h i c old its} h1 h2 h3 => by
    by_cases z : e = it
    · exact .inr z
    · refine .inl fun hm => ?_
      rcases List.mem_cons.mp hm with q | q
      · exact z q
      · have q2 : e = a := by simpa using q
        obtain ⟨o, ho, hc, _⟩ := h3
        rw [← q2] at ho
        have h1' : h.get? e = _ := h1
        rw [h1'] at ho
        cases ho
        have : ("enumerate" : String) = "tuple" := by injection hc
        exact absurd this (by decide)
  have ne2 : ∀ {h : Heap} {i : Nat} {its : Array Value}, h.IsTupleIter it a i → h.IsTuple a its → a ≠ it := fun {h i its} h2 h3 z => by
    obtain ⟨o, ho, hc, _⟩ := h3
    obtain ⟨o2, ho2, hc2, _⟩ := h2
    rw [z, ho2] at ho
    cases ho
    rw [hc2] at hc
    have : ("tuple_iterator" : String) = "tuple" := by injection hc
    exact absurd this (by decide)
  refine ⟨by simp, fun i h st b hb => ?_, fun i h h' st k => ?_, ?_, ?_, fun A i s Q E st h => ?_⟩
  · obtain ⟨⟨old, he⟩, ⟨o, ho, hc, hd⟩, _⟩ := st
    rcases (show b = e ∨ b = it by simpa using hb) with z | z
    · rw [z]
      exact ⟨_, he, fun v q => nomatch q⟩
    · rw [z]
      exact ⟨o, ho, fun v q => by rw [hd] at q; cases q⟩
  · obtain ⟨⟨old, he⟩, hi, hne⟩ := st
    exact ⟨⟨old, k e (by simp) _ he⟩, hi.at fun o q => k it (by simp) o q, hne⟩
  · intro X hP hw hK hc i pins s σ H E I hf st hg
    subst hP hw hK
    obtain ⟨⟨old, he⟩, hit, hne⟩ := st
    obtain ⟨xs, x, hq, hx⟩ := hg
    obtain ⟨its, rv, p, hz⟩ := I.tuple hq
    obtain ⟨u, hu, ru⟩ := rv.get hx
    have hlt : i < its.toArray.size := by
      have := (List.getElem?_eq_some_iff.mp hu).1
      simpa using this
    have hel : e < s.heap.objs.size := Heap.lt_size he
    have hil : it < s.heap.objs.size := by obtain ⟨_, q, _⟩ := hit; exact Heap.lt_size q
    have D := Draws.tuple (prog := X.prog) (w := X.w) (A := X.A.in1) (I.ok.hd hc) it a (ne2 hit p) its.toArray
    refine wpAny_pyNext_enum_itemD D he ⟨hit, p⟩ hlt hne ((apart he hit p).resolve_right hne) fun y h' tk hy ho hst hT hsz hk => ?_
    have ey : y = u := by
      have : its.toArray[i]? = some u := by simpa using hu
      rw [this] at hy
      exact (Option.some.inj hy).symm
    subst ey
    refine ⟨_, rfl, wpAny_letOwnedTupleGo_enum (s := { s with heap := h', toks := tk + 1 }) ho fun h2 he2 sb => ?_⟩
    have hT2 : h2.get? s.heap.objs.size = some { cls := .type "tuple", data := .seq #[.int i tk, y] } := (sb.2 _ (Nat.ne_of_gt hel)).trans hT
    have new : ObjOk X.prog X.w (upd H s.heap.objs.size (.tup [.int (i : Nat), x])) h2 s.heap.objs.size (.tup [.int (i : Nat), x]) :=
      ⟨by show 2 ≤ sizeLine; decide, [.int i tk, y], .cons ⟨_, rfl⟩ (.cons ru .nil), ⟨_, hT2, rfl, _, rfl⟩⟩
    have keep2 : ∀ b ob, b ∉ [e, it] → s.heap.get? b = some ob → h2.get? b = some ob := fun b ob hb q => by
      have b1 : b ≠ e := fun z => hb (by simp [z])
      have b2 : b ≠ it := fun z => hb (by simp [z])
      exact (sb.2 b b1).trans (hk b ob b1 b2 q)
    have I1 : Inv X pins σ (upd H s.heap.objs.size (.tup [.int (i : Nat), x])) { s with heap := h2, toks := tk + 1 } := I.turnedNew (ch := [e, it]) keep2 hf (Nat.le_refl _) new
    refine ⟨.ref s.heap.objs.size, _, I1, rfl, ⟨_, x, rfl, I.hok.fresh (Nat.le_refl _), rfl, fun ys hy => by rw [I.tuple_inj hy hq]; exact hx⟩, ⟨⟨y, ?_⟩, hst.1.at fun o q => (sb.2 it (Ne.symm hne)).trans q, hne⟩, fun b hb => ?_⟩
    · have e1 : ((i + 1 : Nat) : Int) = (i : Int) + 1 := by omega
      rw [e1]
      exact he2
    · have small : b < s.heap.objs.size := by
        rcases (show b = e ∨ b = it by simpa using hb) with z | z
        · rw [z]; exact hel
        · rw [z]; exact hil
      rw [upd_ne (Nat.ne_of_lt small)]
      exact (hf b hb).1
  · intro X hP hw hK hc i pins s σ H E I hf st hg
    subst hP hw hK
    obtain ⟨⟨old, he⟩, hit, hne⟩ := st
    obtain ⟨xs, hq, hx⟩ := hg
    obtain ⟨its, rv, p, hz⟩ := I.tuple hq
    obtain ⟨f0, f1, f2, f3, f4, f5⟩ := hf it (by simp)
    have hl := rv.length
    have T : s.TypeIs (.ref e) "enumerate" := ⟨_, he, rfl⟩
    unfold pyNext
    refine wpAny_bind (wpAny_attempt (wpAny_callSpecial?_slot (name := Str.ofString "__next__") T F.slot_enumerate_next (wpAny_call_entry F.slot_enumerate_next T F.entry_enumerate_next ?_ (F.args_enumerate_next_1 _))))
    show wpAny _ _ (field (.ref e) 2 >>= _) _ _ _
    refine wpAny_bind (wpAny_field he rfl (x := .ref it) rfl ?_)
    refine wpAny_bind (wpAny_nextOf_tuple_end (I.ok.hd hc) hit p (by simp; omega) fun h' x he' hx' => ?_)
    obtain ⟨o, ho, hcl⟩ := hx'
    refine wpAny_bind (wpAny_isInstance (T := "StopIteration") (b := true) ⟨o, ho, hcl⟩ isSubtype_stop ?_)
    exact wpAny_pure ⟨rfl, I.turned (t' := s.toks) (fun b o hb q => he' b o hb q) f0 f1 f3 f4 f5⟩
  · obtain ⟨⟨_, he⟩, _⟩ := st
    exact wpAny_pyIter_enum he h
/-- enumerate(v), v a list or a tuple -/
def iEnumQ (K : PySem.W.Frag) (tl : TE) : TI := fun σ H R => tl σ H fun v H1 => (∃ a, v = .ref a ∧ (∃ xs, SqL K H1 a xs) ∧ R (Ite K a) H1) ∨ (∃ a, v = .ref a ∧ (∃ xs, SqT K H1 a xs) ∧ R (IteT K a) H1)
theorem pi_enumQ {X : Cx} {e : Expr} {tl : TE} {p pos tpos : Pos} {elts : List Expr} {kk : Nat} (hg : Gl X "enumerate") (hm : X.mg "enumerate" = none) (he : PE X e tl) (hs : starEach [e] X.env = [(false, eval e X.env)] := by rfl) :
    PI X (.Tuple elts kk tpos) (.Call (.Name "enumerate" p) [e] [] pos) (iEnumQ X.K tl) := by
  refine ⟨fun pins s σ H R I h => ?_⟩
  have ha : PA X [e] (tCons tl tNil) := pa_cons he pa_nil (by rw [hs]; rfl)
  have h2 : (tCons tl tNil) σ H fun vs H1 => ∃ v, vs = [v] ∧ ((∃ a, v = V.ref a ∧ (∃ xs, SqL X.K H1 a xs) ∧ R (Ite X.K a) H1) ∨ (∃ a, v = V.ref a ∧ (∃ xs, SqT X.K H1 a xs) ∧ R (IteT X.K a) H1)) := by
    show tl σ H fun v H1 => ∃ v', [v] = [v'] ∧ _
    have eq : (fun v H1 => ∃ v', [v] = [v'] ∧ ((∃ a, v' = V.ref a ∧ (∃ xs, SqL X.K H1 a xs) ∧ R (Ite X.K a) H1) ∨ (∃ a, v' = V.ref a ∧ (∃ xs, SqT X.K H1 a xs) ∧ R (IteT X.K a) H1))) = fun v H1 => (∃ a, v = V.ref a ∧ (∃ xs, SqL X.K H1 a xs) ∧ R (Ite X.K a) H1) ∨ (∃ a, v = V.ref a ∧ (∃ xs, SqT X.K H1 a xs) ∧ R (IteT X.K a) H1) := by
      funext v H1
      apply propext
      constructor
      · rintro ⟨v', e1, q⟩
        cases e1
        exact q
      · exact fun q => ⟨v, rfl, q⟩
    rw [eq]
    exact h
  refine Call_ (ld_blt I hg hm boot_enumerate (PyProof.Rows.callWith_type1 (thn (ha.run pos pins s σ H _ I h2) fun us s1 hw => ?_) hs rfl))
  obtain ⟨vs, H1, I1, r1, v, ev, q1⟩ := hw
  subst ev
  cases r1 with
  | cons r rr =>
    cases rr
    have fresh : ∀ b ∈ [s1.heap.objs.size + 1, s1.heap.objs.size], FpOk X pins H1 b := fun b hb => by
      have hle : s1.heap.objs.size ≤ b := by
        rcases (show b = s1.heap.objs.size + 1 ∨ b = s1.heap.objs.size by simpa using hb) with z | z
        · rw [z]; exact Nat.le_add_right _ _
        · rw [z]; exact Nat.le_refl _
      exact I1.fpOk hle (I1.hok.fresh hle)
    rcases q1 with ⟨a, ea, ⟨ws, hq⟩, q⟩ | ⟨a, ea, ⟨ws, hq⟩, q⟩
    · rw [ea] at r
      cases r
      obtain ⟨its, rv, pl, hz⟩ := I1.list hq
      refine enum1_call (begins_list a its.toArray) pl.isList fun h' h1 h2 hk => wpAny_pyIter_enum h1 ?_
      exact ⟨s1.heap.objs.size + 1, [s1.heap.objs.size + 1, s1.heap.objs.size], _, _, H1, rfl, I1.kept (t' := s1.toks) hk, turn_enum a (s1.heap.objs.size + 1) s1.heap.objs.size, ⟨⟨.none, h1⟩, ⟨_, h2, rfl, rfl⟩, Nat.succ_ne_self _⟩, fresh, q⟩
    · rw [ea] at r
      cases r
      obtain ⟨its, rv, pt, hz⟩ := I1.tuple hq
      refine enum1_call (begins_tuple a its.toArray) pt fun h' h1 h2 hk => wpAny_pyIter_enum h1 ?_
      exact ⟨s1.heap.objs.size + 1, [s1.heap.objs.size + 1, s1.heap.objs.size], _, _, H1, rfl, I1.kept (t' := s1.toks) hk, turn_enumT a (s1.heap.objs.size + 1) s1.heap.objs.size, ⟨⟨.none, h1⟩, ⟨_, h2, rfl, rfl⟩, Nat.succ_ne_self _⟩, fresh, q⟩
end Gv

set_option Elab.async false
set_option linter.all false
set_option maxRecDepth 100000
set_option maxHeartbeats 2000000
/-! Gv: enumerate walked; pairs of ints that stand as they were laid; sorted of such -/
namespace Gv
open PySem L2
/-! ### sorted pairs, in plain Lean -/
def insP (x : Int × Int) : List (Int × Int) → List (Int × Int)
  | [] => [x]
  | y :: ys => if SrtO.lexB y x then y :: insP x ys else x :: y :: ys
def sortP : List (Int × Int) → List (Int × Int)
  | [] => []
  | x :: xs => insP x (sortP xs)
theorem insP_perm (x : Int × Int) : ∀ l : List (Int × Int), (insP x l).Perm (x :: l)
  | [] => .refl _
  | y :: ys => by
    unfold insP
    split
    · exact ((insP_perm x ys).cons y).trans (.swap _ _ _)
    · exact .refl _
theorem sortP_perm : ∀ l : List (Int × Int), (sortP l).Perm l
  | [] => .refl _
  | x :: xs => (insP_perm x (sortP xs)).trans ((sortP_perm xs).cons x)
theorem insP_sorted (x : Int × Int) : ∀ l : List (Int × Int), SrtO.Srtd SrtO.lexB l → SrtO.Srtd SrtO.lexB (insP x l)
  | [], _ => List.pairwise_singleton _ _
  | y :: ys, h => by
    obtain ⟨h1, h2⟩ := List.pairwise_cons.mp h
    unfold insP
    split
    · rename_i e
      refine List.pairwise_cons.mpr ⟨fun z hz => ?_, insP_sorted x ys h2⟩
      rcases List.mem_cons.mp ((insP_perm x ys).mem_iff.mp hz) with rfl | hz
      · have := SrtO.lexB_iff.mp e
        exact SrtO.lexB_no.mpr (by omega)
      · exact h1 z hz
    · rename_i e
      have e' := SrtO.lexB_no.mp (by simpa using e)
      refine List.pairwise_cons.mpr ⟨fun z hz => ?_, h⟩
      rcases List.mem_cons.mp hz with rfl | hz
      · exact SrtO.lexB_no.mpr e'
      · have q := SrtO.lexB_no.mp (h1 z hz)
        exact SrtO.lexB_no.mpr (by omega)
theorem sortP_sorted : ∀ l : List (Int × Int), SrtO.Srtd SrtO.lexB (sortP l)
  | [] => .nil
  | x :: xs => insP_sorted x _ (sortP_sorted xs)
theorem lex_uniq : ∀ {l m : List (Int × Int)}, l.Perm m → SrtO.Srtd SrtO.lexB l → SrtO.Srtd SrtO.lexB m → l = m
  | [], m, p, _, _ => (List.Perm.nil_eq p)
  | x :: l, [], p, _, _ => absurd p.length_eq (by simp)
  | x :: l, y :: m, p, hl, hm => by
    obtain ⟨l1, l2⟩ := List.pairwise_cons.mp hl
    obtain ⟨m1, m2⟩ := List.pairwise_cons.mp hm
    have e : x = y := by
      rcases List.mem_cons.mp (p.mem_iff.mp List.mem_cons_self) with e | hx
      · exact e
      · rcases List.mem_cons.mp (p.mem_iff.mpr List.mem_cons_self) with e | hy
        · exact e.symm
        · have a := SrtO.lexB_no.mp (m1 x hx)
          have b := SrtO.lexB_no.mp (l1 y hy)
          obtain ⟨x1, x2⟩ := x
          obtain ⟨y1, y2⟩ := y
          simp only at a b
          have : x1 = y1 := by omega
          have : x2 = y2 := by omega
          simp_all
    subst e
    rw [lex_uniq p.cons_inv l2 m2]
/-- a pair of ints that stands as it was laid -/
def eQ (x : Int × Int) : VP := fun _ v S => ∃ a, v = .ref a ∧ S a = some (.tup [.int x.1, .int x.2])
def enumL {β : Type} (xs : List β) : List (Int × β) := xs.zipIdx.map fun p => ((p.2 : Int), p.1)
theorem enumL_len {β : Type} (xs : List β) : (enumL xs).length = xs.length := by unfold enumL; rw [List.length_map, List.length_zipIdx]
theorem enumL_get {β : Type} {xs : List β} {i : Nat} {b : Int × β} (h : (enumL xs)[i]? = some b) : b.1 = (i : Nat) ∧ xs[i]? = some b.2 := by
  unfold enumL at h
  rw [List.getElem?_map, List.getElem?_zipIdx] at h
  cases e : xs[i]? with
  | none => rw [e] at h; cases h
  | some y =>
    rw [e] at h
    simp only [Option.map_some, Option.some.injEq] at h
    subst h
    exact ⟨by simp, rfl⟩
section
variable {K : PySem.W.Frag} {ρ lam α β γ : Type} {X : Fx ρ} {Γ : List (Option Tm)} {g : Gh} {S H : Hp} {σ : St} {τ : List (V × Tm)} {v x y : V} {t u z : Tm} {i j : Nat} {ta tb tc te : TE} {r r' : R2} {Q : VK} {N : α → Prop} {T : ρ → Prop} {B C : lam → Prop} {E : Er → Prop}
  {e : β → VP} {xs : List β} {Rk : It → Hp → Prop}
theorem eQ_p {x : Int × Int} (h : Hd K (eQ x) v S) : Hd K (eP2 eI eI x) v S := by
  obtain ⟨S0, e0, a, rfl, h1⟩ := h
  exact ⟨S0, e0, a, _, rfl, SqT.of h1, .cons (.of rfl) (.cons (.of rfl) .nil)⟩
theorem f_tupQ {a b : Int} (hA : At K g Γ σ ((y, .dat (eI b)) :: (x, .dat (eI a)) :: τ) H) (k : ∀ v H', At K g Γ σ ((v, .dat (eQ (a, b))) :: τ) H' → Q v H') : TupK Q [x, y] H := by
  obtain ⟨S, h⟩ := hA
  have e1 : y = V.int b := h.top.i
  have e2 : x = V.int a := h.pop.top.i
  subst e1 e2
  exact ⟨by show 2 ≤ sizeLine; decide, fun p hp => k _ _ ⟨_, (h.pop.pop.lay hp).push (.of ⟨p, rfl, upd_same⟩)⟩⟩
theorem hds_q {kf : V → Int × Int} : ∀ {xs : List (Int × Int)} {vs : List V}, Hds K S (xs.map eQ) vs → Same S H → (∀ t i j, H t = some (.tup [.int i, .int j]) → kf (.ref t) = (i, j)) → xs = vs.map kf ∧ ∀ v ∈ vs, ∃ t, v = V.ref t ∧ S t = some (.tup [.int (kf v).1, .int (kf v).2])
  | [], _, .nil, _, _ => ⟨rfl, fun v h => nomatch h⟩
  | x :: xs, _, .cons r t, hs, hk => by
    obtain ⟨q1, q2⟩ := hds_q (xs := xs) t hs hk
    obtain ⟨S0, e0, a, ea, h1⟩ := r
    have h2 := e0 _ _ h1
    have h3 := hk a _ _ (hs _ _ h2)
    refine ⟨?_, fun v hv => ?_⟩
    · rw [List.map_cons, ea, h3, ← q1]
    · rcases List.mem_cons.mp hv with rfl | hv
      · exact ⟨a, ea, by rw [ea, h3]; exact h2⟩
      · exact q2 v hv
theorem q_hds {kf : V → Int × Int} : ∀ {vs : List V}, (∀ v ∈ vs, ∃ t, v = V.ref t ∧ S t = some (.tup [.int (kf v).1, .int (kf v).2])) → Hds K S ((vs.map kf).map eQ) vs
  | [], _ => .nil
  | v :: vs, h => by
    obtain ⟨t, e, q⟩ := h v List.mem_cons_self
    exact .cons (.of ⟨t, e, q⟩) (q_hds fun w hw => h w (List.mem_cons_of_mem _ hw))
/-- sorted(xs) of pairs of ints -/
theorem o1_sortedQ {xs : List (Int × Int)} (hl : IsL Γ t (xs.map eQ)) : O1 K Γ (fun x => rSortedPO K [x]) t (.own none (.lst ((sortP xs).map eQ))) := fun g σ τ H x Q ⟨S, h⟩ k => by
  obtain ⟨a, vs, rfl, h2, h3⟩ := h.isL List.mem_cons_self hl
  let kf : V → Int × Int := fun v => match v with
    | .ref t => match H t with
      | some (.tup [.int i, .int j]) => (i, j)
      | _ => (0, 0)
    | _ => (0, 0)
  have hk : ∀ t i j, H t = some (.tup [.int i, .int j]) → kf (.ref t) = (i, j) := fun t i j e => by
    show (match H t with
      | some (.tup [.int i, .int j]) => (i, j)
      | _ => (0, 0)) = (i, j)
    rw [e]
  obtain ⟨q1, q2⟩ := hds_q (kf := kf) h3 h.base.sh hk
  refine ⟨a, vs, kf, rfl, h2, fun v hv => ?_, fun ys p h1 hst hn => k _ _ ⟨S, h.pop.fresh hn ⟨ys, rfl, ?_⟩⟩⟩
  · obtain ⟨t, e, q⟩ := q2 v hv
    exact ⟨t, e, h.base.sh _ _ q⟩
  · have e : sortP xs = ys.map kf := by
      refine lex_uniq ((sortP_perm xs).trans ?_) (sortP_sorted xs) (SrtO.srtd_map h1)
      rw [q1]
      exact (hst.perm.map kf).symm
    rw [e]
    exact q_hds fun v hv => q2 v (hst.perm.mem_iff.mp hv)
/-! ### enumerate walked -/
theorem walk_enumT {a : Addr} {vs : List V} : Walk (IteT K a) vs.length (fun H => SqT K H a vs) (YPair (fun i => some (.int (i : Nat))) (fun i => vs[i]?)) := by
  refine ⟨fun i _ hi q => ⟨vs, vs[i], q, by simp [hi]⟩, fun _ q => ⟨vs, q, Nat.le_refl _⟩, fun i H v H' _ q y => ?_⟩
  obtain ⟨T, x, h1, h2, h3, h4⟩ := y
  exact ⟨T, .int (i : Nat), x, h1, h2, h3, rfl, h4 vs q⟩
theorem enum_yield {g : Gh} {S : Hp} {vs : List V} (h3 : Hds K S (xs.map e) vs) (hS : Same S g.S0) : ∀ (i : Nat) (b : Int × β) (x : V) (H1 H2 : Hp) (Γ' : List (Option Tm)) (σ' : St) (τ' : List (V × Tm)), (enumL xs)[i]? = some b →
    YPair (fun i => some (.int (i : Nat))) (fun i => vs[i]?) i H1 x H2 → At K g Γ' σ' τ' H1 → At K g Γ' σ' ((x, .dat (eP2 eI e b)) :: τ') H2 := fun i b x H1 H2 Γ' σ' τ' hb hy ⟨S2, hA2⟩ => by
  obtain ⟨T, y, w, rfl, hn, rfl, e1, e2⟩ := hy
  obtain ⟨b1, b2⟩ := enumL_get hb
  have e1' : y = V.int (i : Nat) := (Option.some.inj e1).symm
  obtain ⟨w2, w3, w4⟩ := h3.get (show (xs.map e)[i]? = some (e b.2) by rw [List.getElem?_map, b2]; rfl)
  have e2' : vs[i]? = some w := e2
  rw [e2'] at w3
  cases w3
  subst e1'
  refine hA2.newT hn (ps := [eI b.1, e b.2]) (.cons (.of ?_) (.cons ((w4.mono hS).mono hA2.base.s0) .nil))
  show V.int _ = V.int _
  rw [b1]
theorem wk_enumL (hA : At K g Γ σ ((v, .dat (eL e xs)) :: τ) H) (hm : WK K g Γ σ τ (enumL xs) (eP2 eI e) Rk) : ∃ a, v = .ref a ∧ (∃ xs, SqL K H a xs) ∧ Rk (Ite K a) H := by
  obtain ⟨S, h⟩ := hA
  obtain ⟨a, vs, rfl, h2, h3⟩ := Hd.l h.top
  have hl : vs.length = (enumL xs).length := by rw [enumL_len, h3.len, List.length_map]
  exact ⟨a, rfl, ⟨vs, h.base.sh.seq h2⟩, hm (Ite K a) (fun H => SqL K H a vs) _ S H (by rw [← hl]; exact walk_enum) h.base.s0 h.base.fs ⟨S, h.pop.reS⟩ (fun S2 H2 B => B.reS.seq h2) (enum_yield h3 (Same.refl _))⟩
theorem wk_enumT (hA : At K g Γ σ ((v, .dat (eT e xs)) :: τ) H) (hm : WK K g Γ σ τ (enumL xs) (eP2 eI e) Rk) : ∃ a, v = .ref a ∧ (∃ xs, SqT K H a xs) ∧ Rk (IteT K a) H := by
  obtain ⟨S, h⟩ := hA
  obtain ⟨a, vs, rfl, h2, h3⟩ := Hd.t h.top
  have hl : vs.length = (enumL xs).length := by rw [enumL_len, h3.len, List.length_map]
  exact ⟨a, rfl, ⟨vs, same_t h.base.sh h2⟩, hm (IteT K a) (fun H => SqT K H a vs) _ S H (by rw [← hl]; exact walk_enumT) h.base.s0 h.base.fs ⟨S, h.pop.reS⟩ (fun S2 H2 B => same_t B.reS h2) (enum_yield h3 (Same.refl _))⟩
theorem wk_enumD {d : PyData} {F : List PyData → O ρ lam α} (hA : At K g Γ σ ((v, .dat (eD d)) :: τ) H) (hm : Out (bindR (itemsD d) F) N T B C E) (k : ∀ xs, Out (F xs) N T B C E → WK K g Γ σ τ (enumL xs) (eP2 eI eD) Rk) :
    (∃ a, v = .ref a ∧ (∃ xs, SqL K H a xs) ∧ Rk (Ite K a) H) ∨ (∃ a, v = .ref a ∧ (∃ xs, SqT K H a xs) ∧ Rk (IteT K a) H) :=
  f_items hA hm fun xs h hm => h.elim (fun h => .inl (wk_enumL h (k xs hm))) fun h => .inr (wk_enumT h (k xs hm))
theorem wk_enumQL (hA : At K g Γ σ ((v, .dat (eL e xs)) :: τ) H) (hm : WK K g Γ σ τ (enumL xs) (eP2 eI e) Rk) : (∃ a, v = .ref a ∧ (∃ xs, SqL K H a xs) ∧ Rk (Ite K a) H) ∨ (∃ a, v = .ref a ∧ (∃ xs, SqT K H a xs) ∧ Rk (IteT K a) H) := .inl (wk_enumL hA hm)
theorem wk_enumQT (hA : At K g Γ σ ((v, .dat (eT e xs)) :: τ) H) (hm : WK K g Γ σ τ (enumL xs) (eP2 eI e) Rk) : (∃ a, v = .ref a ∧ (∃ xs, SqL K H a xs) ∧ Rk (Ite K a) H) ∨ (∃ a, v = .ref a ∧ (∃ xs, SqT K H a xs) ∧ Rk (IteT K a) H) := .inr (wk_enumT hA hm)
variable {tg : TG} {tb' us : TS} {D : Ends} {tl : TE} {tt : TT} {vs : List Nat}
theorem x_forE (h : tl σ H fun v H1 => (∃ a, v = .ref a ∧ (∃ xs, SqL K H1 a xs) ∧ FR tg tb' us D σ (Ite K a) H1) ∨ (∃ a, v = .ref a ∧ (∃ xs, SqT K H1 a xs) ∧ FR tg tb' us D σ (IteT K a) H1)) : tSeq (tFor (iEnumQ K tl) tg tb') us D σ H := h
theorem x_lcE (h : tl σ H fun v H1 => (∃ a, v = .ref a ∧ (∃ xs, SqL K H1 a xs) ∧ LR tg tt te vs σ Q (Ite K a) H1) ∨ (∃ a, v = .ref a ∧ (∃ xs, SqT K H1 a xs) ∧ LR tg tt te vs σ Q (IteT K a) H1)) : tLc (iEnumQ K tl) tg tt te vs σ H Q := h
/-- a tuple's items boxed -/
theorem hds_box {d : β → PyData} (h : Bx e d) : ∀ {xs : List β} {vs : List V}, Hds K S (xs.map e) vs → Hds K S ((xs.map d).map eD) vs
  | [], _, .nil => .nil
  | x :: xs, _, .cons r t => .cons (Bx.hd h _ _ r) (hds_box h t)
theorem boxT {d : β → PyData} (h : Bx e d) {xs : List β} : ∀ v S, Hd K (eT e xs) v S → Hd K (eT eD (xs.map d)) v S := fun v S q => by
  obtain ⟨a, vs, rfl, h2, h3⟩ := Hd.t q
  exact .of ⟨a, vs, rfl, h2, hds_box h h3⟩
theorem boxL {d : β → PyData} (h : Bx e d) {xs : List β} : ∀ v S, Hd K (eL e xs) v S → Hd K (eL eD (xs.map d)) v S := fun v S q => by
  obtain ⟨a, vs, rfl, h2, h3⟩ := Hd.l q
  exact .of ⟨a, vs, rfl, h2, hds_box h h3⟩
end
/-! ### the law's own head -/
def spLaw (K : PySem.W.Frag) (n : Nat) : Sp := fun vs H Q E => ∃ (a : Addr) (ns : List Int), vs = [V.ref a] ∧ SqL K H a (ns.map V.int) ∧ ns.length ≤ n ∧ ∀ H', Q (.bl true) H'
theorem ints_hds {K : PySem.W.Frag} {S : Hp} : ∀ ns : List Int, Hds K S (ns.map eI) (ns.map V.int)
  | [] => .nil
  | n :: ns => .cons (.of rfl) (ints_hds ns)
theorem law_sp {K : PySem.W.Frag} {EC : Str → Addr} {n : Nat} {m : List Int → R Bool} {post : Bool → List Addr → List (Option Tm)} (h : ∀ ns, ns.length ≤ n → m ns = .nx true) {vs : List V} {H : Hp} {Q : VK} {E : XK} (q : spLaw K n vs H Q E) :
    Spec K EC 1 (fun a _ => [some (.dat (eL eI a))]) m post (fun r => .dat (eB r)) vs H Q E := by
  obtain ⟨a, ns, rfl, hS, hl, k⟩ := q
  refine ⟨rfl, ns, [], ⟨H, H⟩, rfl, ⟨H, ⟨Same.refl H, Same.refl H, Same.refl H, fun b h1 h2 => h2⟩, Nat.le_refl _, fun x hx => ?_, fun x hx j => ?_, fun x hx => (nomatch hx), ?_⟩, ?_⟩
  · have : x = (V.ref a, Tm.dat (eL eI ns)) := by simpa [pack] using hx
    subst this
    exact .of ⟨a, _, rfl, hS, ints_hds ns⟩
  · have : x = (V.ref a, Tm.dat (eL eI ns)) := by simpa [pack] using hx
    subst this
    exact fun z => nomatch z
  · simp [pack, addrs]
  · rw [h ns hl]
    intro v H' σ' ⟨S, hA⟩
    rw [show v = V.bl true from hA.top.b]
    exact k H'
def strD : PyData → R Str
  | .str x => .nx x
  | _ => .stuck
def boolD : PyData → R Bool
  | .bool x => .nx x
  | _ => .stuck
section
variable {K : PySem.W.Frag} {ρ lam α : Type} {Γ : List (Option Tm)} {g : Gh} {H : Hp} {σ : St} {τ : List (V × Tm)} {v : V} {N : α → Prop} {T : ρ → Prop} {B C : lam → Prop} {E : Er → Prop} {P : Prop}
theorem f_str {d : PyData} {f : Str → O ρ lam α} (hA : At K g Γ σ ((v, .dat (eD d)) :: τ) H) (hm : Out (bindR (strD d) f) N T B C E) (k : ∀ i, At K g Γ σ ((v, .dat (eS i)) :: τ) H → Out (f i) N T B C E → P) : P := by
  cases d with
  | str i =>
    refine k i (hA.box fun v S q => ?_) hm
    obtain ⟨S0, e, q⟩ := q
    have q : Dp K S0 v (.str i) := q
    cases q
    exact .of rfl
  | _ => exact hm.elim
theorem f_boolD {d : PyData} {f : Bool → O ρ lam α} (hA : At K g Γ σ ((v, .dat (eD d)) :: τ) H) (hm : Out (bindR (boolD d) f) N T B C E) (k : ∀ i, At K g Γ σ ((v, .dat (eB i)) :: τ) H → Out (f i) N T B C E → P) : P := by
  cases d with
  | bool i =>
    refine k i (hA.box fun v S q => ?_) hm
    obtain ⟨S0, e, q⟩ := q
    have q : Dp K S0 v (.bool i) := q
    cases q
    exact .of rfl
  | _ => exact hm.elim
end
theorem pe_gk {X : Cx} {v : V} {x : Str} {pos : Pos} (hg : Gl X x) (h : ∃ u, X.mg x = some u ∧ RelV v u) (hd : (x == ("__debug__" : Str)) = false := by decide) : PE X (.Name x pos) (tC v) := by
  obtain ⟨u, h1, h2⟩ := h
  exact pe_glob hg h1 h2 hd
end Gv

set_option Elab.async false
set_option linter.all false
set_option maxRecDepth 100000
set_option maxHeartbeats 2000000
/-! Gv: what stands behind the top -/
namespace Gv
open PySem L2 PyProof.Rows
theorem exm_of {K : PySem.W.Frag} {S C : Addr} {b : Bool} (eC : PySem.W.subIn K (.ref C) (.type "BaseException") = some true) (iC : PySem.W.isClsIn K C = true) (tC : PySem.W.typeIn K (.ref C) = some (.type "type"))
    (h4 : PySem.W.subIn K (.ref S) (.ref C) = some b) : PySem.W.exmOne K (.ref S) (.ref C) = some b := by
  have e1 : (PySem.W.subIn K (.ref C) (.type "BaseException") == some true) = true := by rw [eC] <;> rfl
  have e2 : ((PySem.W.clsIn K C).isSome && PySem.W.typeIn K (.ref C) == some (.type "type")) = true := by
    have q : (PySem.W.clsIn K C).isSome = true := iC
    rw [q, tC] <;> rfl
  show (if (PySem.W.subIn K (.ref C) (.type "BaseException") == some true) = true then (if ((PySem.W.clsIn K C).isSome && PySem.W.typeIn K (.ref C) == some (.type "type")) = true then PySem.W.subIn K (.ref S) (.ref C) else none) else none) = some b
  rw [if_pos e1, if_pos e2]
  exact h4
end Gv

set_option Elab.async false
set_option linter.all false
set_option maxRecDepth 100000
set_option maxHeartbeats 2000000
/-! Gv: lcm, augmented assignment -/
namespace Gv
open PySem L2
/-! ### lcm -/
def rLcm : List V → Hp → VK → Prop := fun xs H Q => ∃ a b : Int, xs = [.int a, .int b] ∧ a.natAbs < 1073741824 ∧ b.natAbs < 1073741824 ∧ Q (.int ((Nat.lcm a.natAbs b.natAbs : Nat) : Int)) H
theorem lcm_small {a b : Nat} (ha : a < 1073741824) (hb : b < 1073741824) : (((Nat.lcm 1 a).lcm b : Nat) : Int).natAbs.log2 < PySem.bitsLine := by
  rw [Nat.lcm_one_left, Int.natAbs_natCast]
  have h1 : Nat.lcm a b ≤ a * b := by
    rcases Nat.eq_zero_or_pos (a * b) with h | h
    · have : Nat.lcm a b = 0 := by
        unfold Nat.lcm
        rw [h, Nat.zero_div]
      omega
    · exact Nat.le_of_dvd h (Nat.lcm_dvd_mul a b)
  have h2 : a * b < 1073741824 * 1073741824 := Nat.mul_lt_mul'' ha hb
  have h3 : (Nat.lcm a b).log2 < 64 := by
    by_cases h0 : Nat.lcm a b = 0
    · rw [h0]; decide
    · exact (Nat.log2_lt h0).mpr (by omega)
  exact Nat.lt_of_lt_of_le h3 (by decide)
theorem cr_lcm {X : Cx} : CallR X (.builtin "math.lcm") rLcm := by
  intro pins s σ H vs us Q I r h
  obtain ⟨a, b, rfl, ha, hb, q⟩ := h
  obtain ⟨t, u, rfl⟩ := Vals.int2 r
  refine PySem.W.mg_lcm (by omega) (by omega) (lcm_small ha hb) ?_
  rw [Nat.lcm_one_left]
  exact ⟨.int _, H, I.tok _, ⟨_, rfl⟩, q⟩
def lcmI (a b : Int) : R Int := gd (decide (a.natAbs < 1073741824) && decide (b.natAbs < 1073741824)) ((Nat.lcm a.natAbs b.natAbs : Nat) : Int)
section
variable {K : PySem.W.Frag} {ρ lam α β γ : Type} {X : Fx ρ} {Γ : List (Option Tm)} {g : Gh} {H : Hp} {σ : St} {τ : List (V × Tm)} {v x y : V} {t u z : Tm} {i j : Nat} {ta tb tc te : TE} {r r' : R2} {Q : VK} {N : α → Prop} {T : ρ → Prop} {B C : lam → Prop} {E : Er → Prop}
theorem o2_lcm {a b : Int} : O2M K Γ (fun x y => rLcm [x, y]) (.dat (eI a)) (.dat (eI b)) (lcmI a b) (fun c => .dat (eI c)) := At.part2 fun h => At.scal2 (fun S v w h1 h2 H Q k => by
  simp only [Bool.and_eq_true, decide_eq_true_eq] at h
  exact ⟨a, b, by rw [h1.i, h2.i], h.1, h.2, k⟩) fun _ => rfl
/-! ### x op= e -/
theorem x_aug {f : Int → Int → Int} {us : TS} {D : Ends} {a : Int} (hg : Γ[i]? = some (some (.dat (eI a)))) (hA : At K g Γ σ [] H) (h : ∀ x, At K g Γ σ [(x, .dat (eI a))] H → te σ H fun y H1 => ipI f x y H1 fun z H2 => gName i z σ H2 (us D)) : tSeq (tAug i te (ipI f)) us D σ H := by
  obtain ⟨S, hS⟩ := hA
  obtain ⟨v, e, o, _⟩ := hS.slot hg
  exact ⟨v, e, h v ⟨S, hS.push o⟩⟩
theorem f_ip {f : Int → Int → Int} {a b : Int} (hA : At K g Γ σ ((y, .dat (eI b)) :: (x, .dat (eI a)) :: τ) H) (k : ∀ z H', At K g Γ σ ((z, .dat (eI (f a b))) :: τ) H' → Q z H') : ipI f x y H Q := by
  obtain ⟨S, h⟩ := hA
  exact ⟨a, b, h.pop.top.i, h.top.i, k _ H ⟨S, h.pop.pop.push (.of rfl)⟩⟩
/-! ### o[i] op= e, o an own list -/
theorem gt_list {Xc : Cx} : PGet Xc (rIxL Xc.K) := by
  intro pins s σ H o i ov iv Q I ro ri h
  obtain ⟨p, xs, k, z, rfl, rfl, hq, he, q⟩ := h
  cases ro
  obtain ⟨t, rfl⟩ := ri
  obtain ⟨its, r, pl, hz⟩ := I.list hq
  obtain ⟨j, h1, h2, h3, h4, h5⟩ := atI_get he
  obtain ⟨w, ew, rw'⟩ := r.get h2
  have hl := r.length
  have hn := line63
  have fin : EP Xc pins σ Q w s := ⟨z, H, I, rw', q⟩
  by_cases h0 : 0 ≤ k
  · have hj : k.toNat = j := by
      rw [seqIndex_of h0 h5] at h1
      exact Option.some.inj h1
    exact wpAny_getItem_list pl.isList h0 (by omega) (by rw [hj]; simpa using ew) fin
  · have hj : (k + (its.toArray.size : Int)).toNat = j := by
      rw [seqIndex_neg (by omega) h4] at h1
      rw [List.size_toArray, ← hl]
      exact Option.some.inj h1
    exact wpAny_getItem_list_neg pl.isList (by omega) (by rw [List.size_toArray] <;> omega) (by omega) (by rw [hj]; simpa using ew) fin
theorem x_augS {us : TS} {D : Ends} {f : Int → Int → Int} {rg : V → V → Hp → VK → Prop} {ts : TSet} (h : ta σ H fun o H1 => tb σ H1 fun i H2 => rg o i H2 fun x H3 => te σ H3 fun y H4 => ipI f x y H4 fun z H5 => ts o i z H5 fun H6 => us D σ H6) :
    tSeq (tAugS ta tb te rg (ipI f) ts) us D σ H := h
/-- the item read, alias and place stay -/
theorem f_augGet {e : β → VP} {xs : List β} {k : Int} {oa : Option Addr} {o w : V} {F : β → O ρ lam α} (hg : Γ[i]? = some (some (.own oa (.lst (xs.map e))))) (hA : At K g Γ σ ((w, .dat (eI k)) :: (o, .als i) :: τ) H)
    (hm : Out (bindR (idx xs k) F) N T B C E) (kk : ∀ a v, At K g Γ σ ((v, .dat (e a)) :: (w, .dat (eI k)) :: (o, .als i) :: τ) H → Out (F a) N T B C E → Q v H) : rIxL K o w H Q := by
  have hm2 := hm.bindR
  unfold idx at hm2
  cases e1 : atI xs k with
  | none => rw [e1] at hm2; exact hm2.elim
  | some a =>
    rw [e1] at hm2
    obtain ⟨S, h⟩ := hA
    obtain ⟨b, vs, rfl, h2, h3⟩ := h.isL (List.mem_cons_of_mem _ List.mem_cons_self) (.als hg)
    obtain ⟨v, h4, h5⟩ := atI_hds h3 (atI_map e1)
    exact ⟨b, vs, k, v, rfl, h.top.i, h2, h4, kk a v ⟨S, h.push h5⟩ hm2⟩
/-- the item stored: value on top, place, alias -/
theorem f_augSet {e : β → VP} {xs : List β} {k : Int} {a : β} {oa : Option Addr} {o w z : V} {Q : Hp → Prop} {F : List β → O ρ lam α} (hg : Γ[i]? = some (some (.own oa (.lst (xs.map e))))) (hA : At K g Γ σ ((z, .dat (e a)) :: (w, .dat (eI k)) :: (o, .als i) :: τ) H)
    (hm : Out (bindR (setR xs k a) F) N T B C E) (kk : ∀ ys H', At K g (Γ.set i (some (.own oa (.lst (ys.map e))))) σ τ H' → Out (F ys) N T B C E → Q H') : rSetL o w z H Q := by
  obtain ⟨S, h⟩ := hA
  have p : ((z, Tm.dat (e a)) :: (w, Tm.dat (eI k)) :: (o, Tm.als i) :: τ).Perm ((w, Tm.dat (eI k)) :: (o, Tm.als i) :: (z, Tm.dat (e a)) :: τ) :=
    (List.Perm.swap _ _ _).trans ((List.Perm.swap _ _ _).cons _)
  exact f_setm hg ⟨S, h.perm p⟩ hm kk
/-! ### a datum within a tuple, taken apart -/
theorem eW_set {S : Hp} {p q : VP} {ps : List VP} (j : Nat) (e : ps[j]? = some p) (hb : ∀ w S, Hd K p w S → Hd K q w S) (z : Hd K (eW ps) v S) : Hd K (eW (ps.set j q)) v S := by
  rcases eW_hd z with z | z
  · obtain ⟨a, vs, rfl, h2, h3⟩ := Hd.l z
    exact eW_l (.of ⟨a, vs, rfl, h2, hds_set (ps := ps) j h3 (fun w _ => hb w S) e⟩)
  · obtain ⟨a, vs, rfl, h2, h3⟩ := Hd.t z
    exact eW_t (.of ⟨a, vs, rfl, h2, hds_set (ps := ps) j h3 (fun w _ => hb w S) e⟩)
theorem At.boxI {p q : VP} {ps : List VP} (j : Nat) (e : ps[j]? = some p) (hb : ∀ w S, Hd K p w S → Hd K q w S) (h : At K g Γ σ ((v, .dat (rT ps)) :: τ) H) : At K g Γ σ ((v, .dat (rT (ps.set j q))) :: τ) H := h.box fun v S z => by
  obtain ⟨a, vs, rfl, h2, h3⟩ := Hd.t z
  exact .of ⟨a, vs, rfl, h2, hds_set (ps := ps) j h3 (fun w _ => hb w S) e⟩
theorem f_unp3I (j : Nat) {d : PyData} {ps : List VP} {f : PyData × PyData × PyData → O ρ lam α} {P : Prop} (e : ps[j]? = some (eD d)) (hA : At K g Γ σ ((v, .dat (rT ps)) :: τ) H) (hm : Out (bindR (unp3 d) f) N T B C E)
    (k : ∀ q, At K g Γ σ ((v, .dat (rT (ps.set j (eW [eD q.1, eD q.2.1, eD q.2.2])))) :: τ) H → Out (f q) N T B C E → P) : P := by
  obtain ⟨a, b, c, h | h, q⟩ := unp3_out hm
  · subst h
    exact k (a, b, c) (hA.boxI j e fun w S z => eW_l (eD_list z)) q
  · subst h
    exact k (a, b, c) (hA.boxI j e fun w S z => eW_t (eD_tup z)) q
theorem f_wintI (j m : Nat) {d : PyData} {ps qs : List VP} {f : Int → O ρ lam α} {P : Prop} (e : ps[j]? = some (eW qs)) (e2 : qs[m]? = some (eD d)) (hA : At K g Γ σ ((v, .dat (rT ps)) :: τ) H) (hm : Out (bindR (intD d) f) N T B C E)
    (k : ∀ i, At K g Γ σ ((v, .dat (rT (ps.set j (eW (qs.set m (eI i)))))) :: τ) H → Out (f i) N T B C E → P) : P := by
  cases d with
  | int i => exact k i (hA.boxI j e fun w S z => eW_set m e2 (fun w S z => eD_int z) z) hm
  | _ => exact hm.elim
/-! ### what may be None and is not -/
def getR {α : Type} (o : Option α) : R α := match o with
  | some a => .nx a
  | none => .stuck
theorem f_get {e : β → VP} {o : Option β} {f : β → O ρ lam α} {P : Prop} (hA : At K g Γ σ ((v, .dat (eO e o)) :: τ) H) (hm : Out (bindR (getR o) f) N T B C E) (k : ∀ a, At K g Γ σ ((v, .dat (e a)) :: τ) H → Out (f a) N T B C E → P) : P := by
  cases o with
  | none => exact hm.elim
  | some a => exact k a hA hm
theorem bj_narrow {e : β → VP} {o : Option β} {f : β → O ρ lam α} {ts : TS} {n : α → List (Option Tm)} {b c : lam → List (Option Tm)} (hg : Γ[i]? = some (some (.dat (eO e o)))) (h : ∀ a, BJ K X (Γ.set i (some (.dat (e a)))) ts (f a) n b c) : BJ K X Γ ts (bindR (getR o) f) n b c := fun g σ H D hA hm => by
  cases o with
  | none => exact hm.elim
  | some a =>
    have hs : Γ.set i (some (.dat (e a))) = Γ := by
      apply List.ext_getElem?
      intro j
      by_cases hj : i = j
      · subst hj
        rw [List.getElem?_set_self (List.getElem?_eq_some_iff.mp hg).1, hg]
        rfl
      · rw [List.getElem?_set_ne hj]
    have q := h a
    rw [hs] at q
    exact q g σ H D hA hm
end
theorem At.forget {K : PySem.W.Frag} {g : Gh} {Γ : List (Option Tm)} {σ : St} {τ : List (V × Tm)} {H : Hp} {i : Nat} {p : VP} (e : Γ[i]? = some (some (.dat p))) (h : At K g Γ σ τ H) : At K g (Γ.set i none) σ τ H := by
  obtain ⟨S, h⟩ := h
  exact ⟨S, h.drop1 e⟩
/-- the append of a suite: the frag by its name -/
theorem pe_bmK {X : Cx} {K : PySem.W.Frag} (hK : X.K = K) {o e : Expr} {es : List Expr} {to : TE} {t : TA} {name : Str} {apos cpos : Pos} {T id : String} {r : V → List V → Hp → VK → Prop} (pa : PlainAttrs T) (slot : Slot T name id) (hty : typeOf (.builtin id) = pure (.type "method_descriptor")) (hm : MtR X id r) (ho : PE X o to) (ha : PA X (e :: es) t)
    (hbase : attributeBase o name X.env (eval o X.env) = eval o X.env := by rfl)
    (hfew : ((backTo cpos (starEach (e :: es) X.env)).all (fun x => !x.1) && (backToKw cpos (keywordEach [] X.env)).all (fun x => x.1.isSome)
      && decide ((e :: es).length + ([] : List Keyword).length + (if ([] : List Keyword).isEmpty then 0 else 1) < 30)) = true := by rfl)
    (hline : (apos.endLine == cpos.line) = true := by rfl) (hs : starEach (e :: es) X.env = (false, eval e X.env) :: starEach es X.env := by rfl) (hplain : (backTo cpos (starEach es X.env)).any (·.1) = false := by rfl) :
    PE X (.Call (.Attribute o name apos) (e :: es) [] cpos) (tBM K T r to t) := by
  subst hK
  exact pe_bm pa slot hty hm ho ha hbase hfew hline hs hplain
end Gv

set_option Elab.async false
set_option linter.all false
set_option maxRecDepth 100000
set_option maxHeartbeats 2000000
/-! Gv: is None of a datum, max -/
namespace Gv
open PySem L2
def isNo : PyData → Bool
  | .none => true
  | _ => false
section
variable {prog : Program} {w : World} {A : Around} {E : Value → Shared → Prop} {s : Shared} {l : Addr} {xs : Array (Int × Tok)}
theorem max_intTup {Q : Value → Shared → Prop} (hh : A.handled = none) (hl : s.heap.IsTuple l (intItems xs)) (hne : 0 < xs.size)
    (h : ∀ v h' tk, (intItems xs)[argBest (fun i j => decide (numAt xs i > numAt xs j)) (xs.size - 1)]? = some v → (∀ b o, s.heap.get? b = some o → h'.get? b = some o) → Q v { s with heap := h', toks := tk }) :
    wpAny (model prog w) A (call (.builtin "max") [.ref l]) Q E s := by
  have hlt : l < s.heap.objs.size := by obtain ⟨_, e, _⟩ := hl; exact Heap.lt_size e
  have hfp : ∀ b ∈ [s.heap.objs.size, l], b < (s.heap.push { cls := .type "tuple_iterator", data := .fields #[.ref l, .int 0 0] }).objs.size := fun b hb => by
    rw [Heap.size_push]
    rcases List.mem_cons.mp hb with rfl | hb
    · exact Nat.lt_succ_self _
    · rcases List.mem_cons.mp hb with rfl | hb
      · exact Nat.lt_succ_of_lt hlt
      · cases hb
  refine call_max_walk (wpAny_pyIter_tuple hl ?_)
  refine ⟨_, _, _, _, _, _, _, rfl, Walks.tuple (A := A.in1) hh _ l (Nat.ne_of_lt hlt) (intItems xs), ⟨⟨_, Heap.get?_push_size _ rfl, rfl, rfl⟩, hl.push _⟩, hfp, by simpa [intItems] using hne, CmpOf.ints_gt (numAt xs) (fun _ _ => intItems_at), fun v h' tk hP hk => ?_⟩
  refine h v h' tk (by simpa [intItems] using hP) fun b o e => hk b o (fun hm => ?_) (Heap.get?_push_of_some _ e)
  rcases List.mem_cons.mp hm with e1 | hm
  · exact absurd (e1 ▸ Heap.lt_size e) (Nat.lt_irrefl _)
  · cases hm
open PyProof.Rows in
theorem max_rawT {its : List Value} {ns : List Int} {Q : Value → Shared → Prop} (hh : A.handled = none) (hl : s.heap.IsTuple l its.toArray) (hi : IntsAre its ns) (hne : 0 < ns.length)
    (h : ∀ h' tk M t', (∀ b o, s.heap.get? b = some o → h'.get? b = some o) → M ∈ ns → (∀ a, a ∈ ns → a ≤ M) → Q (.int M t') { s with heap := h', toks := tk }) : wpAny (model prog w) A (call (.builtin "max") [.ref l]) Q E s := by
  obtain ⟨xs, e⟩ := hi.allInts.items
  have hn : numsOf (intItems xs).toList = ns := by rw [← e]; exact hi.numsOf
  rw [nums_intItems] at hn
  subst hn
  rw [e] at hl
  have hsz : 0 < xs.size := by simpa using hne
  refine max_intTup hh hl hsz fun v h' tk hv hk => ?_
  obtain ⟨t, rfl⟩ := intItems_at hv
  obtain ⟨h1, h2⟩ := argBest_gt (numAt xs) (xs.size - 1)
  refine h h' tk _ t hk ?_ fun a ha => ?_
  · rw [numAt_eq]; exact PySem.getD_mem (by rw [List.length_map, Array.length_toList]; omega)
  · obtain ⟨j, hj, rfl⟩ := mem_getD ha
    rw [List.length_map, Array.length_toList] at hj
    rw [← numAt_eq]; exact h2 j (by omega)
end
def rMaxT (K : PySem.W.Frag) : List V → Hp → VK → Prop := fun vs H Q => ∃ (a : Addr) (ns : List Int), vs = [V.ref a] ∧ SqT K H a (ns.map V.int) ∧ 0 < ns.length ∧ ∀ m, m ∈ ns → (∀ y, y ∈ ns → y ≤ m) → Q (.int m) H
theorem cr_maxT {X : Cx} (hc : X.calm = true) : CallR X (.builtin "max") (rMaxT X.K) := by
  intro pins s σ H vs us Q I r h
  obtain ⟨a, ns, rfl, hs, hne, q⟩ := h
  obtain ⟨its, rv, hl, _⟩ := I.tuple hs
  rw [Vals.ref1 r]
  exact max_rawT (I.ok.hd hc) hl rv.ints hne fun h' tk m t' hk h1 h2 => ⟨.int _, H, I.kept hk, ⟨_, rfl⟩, q m h1 h2⟩
def maxL : List Int → Int
  | [] => 0
  | x :: xs => if maxL xs < x ∨ xs = [] then x else maxL xs
theorem maxL_ok : ∀ {xs : List Int}, xs ≠ [] → maxL xs ∈ xs ∧ ∀ y, y ∈ xs → y ≤ maxL xs
  | [], h => absurd rfl h
  | x :: xs, _ => by
    unfold maxL
    by_cases e : xs = []
    · subst e
      rw [if_pos (.inr rfl)]
      exact ⟨List.mem_cons_self, fun y hy => by have : y = x := by simpa using hy
                                                omega⟩
    · obtain ⟨a, b⟩ := maxL_ok e
      by_cases c : maxL xs < x
      · rw [if_pos (.inl c)]
        refine ⟨List.mem_cons_self, fun y hy => ?_⟩
        rcases List.mem_cons.mp hy with rfl | hy
        · omega
        · have := b y hy; omega
      · rw [if_neg (fun z => z.elim c e)]
        refine ⟨List.mem_cons_of_mem _ a, fun y hy => ?_⟩
        rcases List.mem_cons.mp hy with rfl | hy
        · omega
        · exact b y hy
def maxR (xs : List Int) : R Int := gd (!xs.isEmpty) (maxL xs)
section
variable {K : PySem.W.Frag} {Γ : List (Option Tm)}
theorem eD_dec {d : PyData} {v : V} {S : Hp} (h : Hd K (eD d) v S) : decide (v = .non) = isNo d := by
  obtain ⟨_, _, h⟩ := h
  cases h <;> first | rfl | exact decide_eq_false (fun z => nomatch z)
theorem o2_isND {d : PyData} : O2 K Γ rIsN (.dat (eD d)) (.dat eN) (.dat (eB (isNo d))) :=
  At.scal2 (fun S v w h1 h2 H Q k => ⟨h2.n, by rw [eD_dec h1]; exact k⟩) fun _ => rfl
theorem o2_notND {d : PyData} : O2 K Γ rNotN (.dat (eD d)) (.dat eN) (.dat (eB (!(isNo d)))) :=
  At.scal2 (fun S v w h1 h2 H Q k => ⟨h2.n, by rw [eD_dec h1]; exact k⟩) fun _ => rfl
theorem o1_maxT {xs : List Int} : O1M K Γ (fun x => rMaxT K [x]) (.dat (eT eI xs)) (maxR xs) (fun c => .dat (eI c)) := At.part1 fun hc g σ τ H x Q ⟨S, h⟩ k => by
  obtain ⟨a, vs, rfl, h2, h3⟩ := Hd.t h.top
  rw [hds_ints h3] at h2
  have hne : xs ≠ [] := fun z => by subst z; cases hc
  obtain ⟨m1, m2⟩ := maxL_ok hne
  refine ⟨a, xs, rfl, same_t h.base.sh h2, List.length_pos_iff.mpr hne, fun m h1 h2 => ?_⟩
  have : m = maxL xs := by have a := m2 m h1; have b := h2 _ m1; omega
  subst this
  exact k _ H ⟨S, h.pop.push (.of rfl)⟩
end
end Gv

set_option Elab.async false
set_option linter.all false
set_option maxRecDepth 100000
set_option maxHeartbeats 2000000
/-! Gv: tuples of data, tuples repeated, names narrowed, tuples that stand at the top -/
namespace Gv
open PySem L2
section
variable {K : PySem.W.Frag} {ρ lam α β γ : Type} {X : Fx ρ} {Γ : List (Option Tm)} {g : Gh} {H : Hp} {σ : St} {τ : List (V × Tm)} {v x y : V} {t u z : Tm} {i j : Nat} {P : Prop} {Q : VK} {N : α → Prop} {T : ρ → Prop} {B C : lam → Prop} {E : Er → Prop}
theorem o1_tupleD {d : PyData} : O1M K Γ (fun x => rTuple K [x]) (.dat (eD d)) (itemsD d) (fun xs => .dat (eT eD xs)) := fun g σ τ H x Q E hA hm => by
  cases d with
  | list xs =>
    have := o1_tuple (K := K) (Γ := Γ) (t := .dat (eL eD xs)) (ps := xs.map eD) (.l .dat)
    exact this g σ τ H x Q (hA.box fun v S q => eD_list q) hm
  | tuple xs =>
    have := o1_tuple (K := K) (Γ := Γ) (t := .dat (eT eD xs)) (ps := xs.map eD) .t
    exact this g σ τ H x Q (hA.box fun v S q => eD_tup q) hm
  | _ => exact hm.elim
def intsR : List PyData → R (List Int)
  | [] => .nx []
  | d :: ds => bindR (intD d) fun i => bindR (intsR ds) fun is => .nx (i :: is)
theorem intsR_ok : ∀ {xs : List PyData} {ys : List Int}, intsR xs = .nx ys → xs = ys.map PyData.int
  | [], ys, h => by cases h; rfl
  | d :: ds, ys, h => by
    unfold intsR at h
    cases d with
    | int i =>
      cases q : intsR ds with
      | nx is =>
        rw [q] at h
        cases h
        rw [intsR_ok q]
        rfl
      | er x => rw [q] at h; cases h
      | stuck => rw [q] at h; cases h
      | rt z => exact z.elim
      | bk z => exact z.elim
      | ct z => exact z.elim
    | _ => cases h
theorem intsR_er : ∀ {xs : List PyData} {x : Er}, intsR xs = .er x → False
  | [], x, h => by cases h
  | d :: ds, x, h => by
    unfold intsR at h
    cases d with
    | int i =>
      cases q : intsR ds with
      | nx is => rw [q] at h; cases h
      | er x => exact intsR_er q
      | stuck => rw [q] at h; cases h
      | rt z => exact z.elim
      | bk z => exact z.elim
      | ct z => exact z.elim
    | _ => cases h
theorem hds_int {S : Hp} : ∀ {ys : List Int} {vs : List V}, Hds K S ((ys.map PyData.int).map eD) vs → Hds K S (ys.map eI) vs
  | [], _, .nil => .nil
  | y :: ys, _, .cons r t => .cons (eD_int r) (hds_int t)
/-- the tuple on top is of ints -/
theorem f_ints {xs : List PyData} {f : List Int → O ρ lam α} (hA : At K g Γ σ ((v, .dat (eT eD xs)) :: τ) H) (hm : Out (bindR (intsR xs) f) N T B C E) (k : ∀ ys, At K g Γ σ ((v, .dat (eT eI ys)) :: τ) H → Out (f ys) N T B C E → P) : P := by
  cases q : intsR xs with
  | nx ys =>
    rw [q] at hm
    have e := intsR_ok q
    subst e
    refine k ys (hA.box fun v S h => ?_) hm
    obtain ⟨a, vs, h1, h2, h3⟩ := Hd.t h
    exact ⟨S, Same.refl S, a, vs, h1, h2, hds_int h3⟩
  | er x => exact (intsR_er q).elim
  | stuck => rw [q] at hm; exact hm.elim
  | rt z => exact z.elim
  | bk z => exact z.elim
  | ct z => exact z.elim
end
end Gv

set_option Elab.async false
set_option linter.all false
set_option maxRecDepth 100000
set_option maxHeartbeats 4000000
/-! Gv: a tuple repeated any small number of times -/
namespace Gv
open PySem PySem.Spec PyProof.Rows L2
theorem tuple_mul1 (l : Addr) (items : Array Value) (n : Nat) (dd : Option Addr) (sl : Array (Option Value)) (u : Tok) (hi : items.isEmpty = false) :
    Meets (Builtin.«tuple.__mul__» ⟨[.ref l, .int 1 u], []⟩) (fun _ R s => s.heap.get? l = some { cls := .type "tuple", dict := dd, data := .seq items n, slots := sl } ∧
      R (.ok (.ret (Value.ref l))) s) :=
  .of_wp fun prog w A R s h => by
    obtain ⟨hp, g, d, tk, os⟩ := s
    obtain ⟨hl, h⟩ := h
    have f1 := AutoSeq1.idx_int
    have c0 : (decide ((1 : Int) < -(2 ^ 63)) || decide ((1 : Int) ≥ 2 ^ 63)) = false := by decide
    have c1 : (items.isEmpty || (1 : Int) == 1) = true := by rw [hi]; rfl
    wp_walk using wpAny_loadPart' hl
    repeat (first
      | (refine wpAny_ite_false (decide_eq_false (by rw [c0]; exact Bool.false_ne_true)) ?_; wp_walk using wpAny_loadPart' hl)
      | (refine wpAny_ite_true (decide_eq_true (by rw [c1])) ?_; wp_walk using wpAny_loadPart' hl))
    exact ⟨_, rfl, h⟩
theorem tuple_mul0 (l : Addr) (items : Array Value) (n : Nat) (dd : Option Addr) (sl : Array (Option Value)) (u : Tok) (hi : items.isEmpty = false) :
    Meets (Builtin.«tuple.__mul__» ⟨[.ref l, .int 0 u], []⟩) (fun _ R s => s.heap.get? l = some { cls := .type "tuple", dict := dd, data := .seq items n, slots := sl } ∧
      R (.ok (.ret (Value.ref s.heap.objs.size))) { s with heap := s.heap.push { cls := Value.type "tuple", data := Data.seq #[] }, toks := s.toks }) :=
  .of_wp fun prog w A R s h => by
    obtain ⟨hp, g, d, tk, os⟩ := s
    obtain ⟨hl, h⟩ := h
    have f1 := AutoSeq1.idx_int
    have c0 : (decide ((0 : Int) < -(2 ^ 63)) || decide ((0 : Int) ≥ 2 ^ 63)) = false := by decide
    have c1 : (items.isEmpty || (0 : Int) == 1) = false := by rw [hi]; rfl
    have c2 : (decide ((0 : Int) ≤ 0) || items.isEmpty) = true := by rw [hi]; rfl
    wp_walk using wpAny_loadPart' hl
    repeat (first
      | (refine wpAny_ite_false (decide_eq_false (by rw [c0]; exact Bool.false_ne_true)) ?_; wp_walk using wpAny_loadPart' hl)
      | (refine wpAny_ite_false (decide_eq_false (by rw [c1]; exact Bool.false_ne_true)) ?_; wp_walk using wpAny_loadPart' hl)
      | (refine wpAny_ite_true (decide_eq_true (by rw [c2])) ?_; wp_walk using wpAny_loadPart' hl))
    exact ⟨_, rfl, h⟩
def rRep01 (K : PySem.W.Frag) : R2 := fun x y H Q => ∃ l k xs, x = .ref l ∧ y = .int k ∧ SqT K H l xs ∧ xs ≠ [] ∧ ((k = 1 ∧ Q (.ref l) H) ∨ (k = 0 ∧ ∀ p, H p = none → Q (.ref p) (upd H p (.tup []))))
section
variable {X : Cx}
theorem op_rep01 : OpR X (binaryOp .Mult) (rRep01 X.K) := by
  intro pins s σ H x y v u Q I rx ry h
  obtain ⟨l, k, xs, rfl, rfl, hT, hne, h⟩ := h
  cases rx
  obtain ⟨t, rfl⟩ := ry
  obtain ⟨its, r, ⟨⟨cls, dd, data, sl⟩, ho, hc, n, hd⟩, hs⟩ := I.tuple hT
  simp only at hc hd
  subst hc hd
  have hle : its.length = xs.length := r.length.symm
  have hn : its ≠ [] := fun e => hne (by
    rw [e] at hle
    exact List.eq_nil_of_length_eq_zero hle.symm)
  have hi : its.toArray.isEmpty = false := by
    cases its with
    | nil => exact absurd rfl hn
    | cons a b => rfl
  rcases h with ⟨rfl, q⟩ | ⟨rfl, q⟩
  · refine wpAny_binaryOp_repeat_ref (T := "tuple") (U := "int") (by decide) ⟨_, ho, rfl⟩ (fun s' => typeIs_int s' 1 t) noFill_tuple_mul F.fills_int_mul F.slot_int_rmul repeat_tuple F.slot_int_index.lookup
      (call_meets F.slot_int_rmul (typeIs_int s 1 t) F.entry_int_rmul (F.args_int_rmul_2 _ _) (int_rmul_tuple 1 t l its.toArray n dd sl)
        ⟨ho, rfl, ⟨_, ho, rfl⟩, call_meets F.slot_tuple_mul ⟨_, ho, rfl⟩ F.entry_tuple_mul (F.args_tuple_mul_2 _ _) (tuple_mul1 l its.toArray n dd sl t hi) ⟨ho, ?_⟩⟩)
    exact ⟨.ref l, H, I, rfl, q⟩
  · refine wpAny_binaryOp_repeat_ref (T := "tuple") (U := "int") (by decide) ⟨_, ho, rfl⟩ (fun s' => typeIs_int s' 0 t) noFill_tuple_mul F.fills_int_mul F.slot_int_rmul repeat_tuple F.slot_int_index.lookup
      (call_meets F.slot_int_rmul (typeIs_int s 0 t) F.entry_int_rmul (F.args_int_rmul_2 _ _) (int_rmul_tuple 0 t l its.toArray n dd sl)
        ⟨ho, rfl, ⟨_, ho, rfl⟩, call_meets F.slot_tuple_mul ⟨_, ho, rfl⟩ F.entry_tuple_mul (F.args_tuple_mul_2 _ _) (tuple_mul0 l its.toArray n dd sl t hi) ⟨ho, ?_⟩⟩)
    exact ⟨.ref s.heap.objs.size, _, I.laid (t' := s.toks) (o := .tup []) (fun b ob q => Heap.get?_push_of_some _ q) (Nat.le_refl _) ⟨Nat.zero_le _, [], .nil, IsTup.new _ _⟩, rfl, q _ (I.hok.fresh (Nat.le_refl _))⟩
def rRepA (K : PySem.W.Frag) : R2 := fun x y H Q => rRepT K x y H Q ∨ rRep01 K x y H Q
theorem op_repA : OpR X (binaryOp .Mult) (rRepA X.K) := by
  intro pins s σ H x y v u Q I rx ry h
  rcases h with h | h
  · exact op_repT pins s σ H x y v u Q I rx ry h
  · exact op_rep01 pins s σ H x y v u Q I rx ry h
end
section
variable {K : PySem.W.Frag} {Γ : List (Option Tm)} {β : Type}
def repA {α : Type} (xs : List α) (k : Int) : R (List α) := gd (!xs.isEmpty && decide (0 ≤ k) && decide (k ≤ 1000) && decide (xs.length ≤ 1000)) (List.replicate k.toNat xs).flatten
theorem o2_repA {xs : List β} {e : β → VP} {k : Int} : O2M K Γ (rRepA K) (.dat (eT e xs)) (.dat (eI k)) (repA xs k) (fun c => .dat (eT e c)) := At.part2 fun hc => fun g σ τ H x y Q ⟨S, h⟩ kk => by
  simp only [Bool.and_eq_true, decide_eq_true_eq, Bool.not_eq_true'] at hc
  obtain ⟨⟨⟨h0, h1⟩, h2⟩, h3⟩ := hc
  obtain ⟨a, vs, rfl, k2, k3⟩ := Hd.t h.pop.top
  have hl : vs.length = xs.length := by rw [k3.len, List.length_map]
  have hne : vs ≠ [] := fun e0 => by
    subst e0
    cases xs with
    | nil => cases h0
    | cons _ _ => simp at hl
  have q := h.pop.top
  by_cases c2 : 2 ≤ k
  · refine .inl ⟨a, k, vs, rfl, h.top.i, same_t h.base.sh k2, hne, c2, h2, by omega, fun p hn => kk _ _ (h.pop.pop.newT hn ?_)⟩
    rw [rep_map]
    exact hds_rep k3 k.toNat
  · refine .inr ⟨a, k, vs, rfl, h.top.i, same_t h.base.sh k2, hne, ?_⟩
    rcases (show k = 1 ∨ k = 0 by omega) with rfl | rfl
    · refine .inl ⟨rfl, kk _ _ ⟨S, h.pop.pop.push ?_⟩⟩
      have e : (List.replicate (1 : Int).toNat xs).flatten = xs := by simp
      rw [e]
      exact q
    · exact .inr ⟨rfl, fun p hn => kk _ _ (h.pop.pop.newT hn .nil)⟩
def repL {α : Type} (xs : List α) (k : Int) : R (List α) := gd (decide (0 ≤ k) && decide (k ≤ 1000) && decide (xs.length ≤ 1000)) (List.replicate k.toNat xs).flatten
theorem o2_repL {t : Tm} {xs : List β} {e : β → VP} {k : Int} (h1 : IsO Γ t (xs.map e)) : O2M K Γ rRep t (.dat (eI k)) (repL xs k) (fun c => .own none (.lst (c.map e))) := At.part2 fun hc => fun g σ τ H x y Q ⟨S, h⟩ kk => by
  simp only [Bool.and_eq_true, decide_eq_true_eq] at hc
  obtain ⟨⟨h1', h2⟩, h3⟩ := hc
  obtain ⟨a, vs, rfl, k2, k3⟩ := h.isO (List.mem_cons_of_mem _ List.mem_cons_self) h1
  have hl : vs.length = xs.length := by rw [k3.len, List.length_map]
  refine ⟨a, k, vs, rfl, h.top.i, k2, by omega, by omega, ?_, fun p hn => kk _ _ ⟨S, h.pop.pop.fresh hn ⟨_, rfl, ?_⟩⟩⟩
  · have a1 : vs.length * k.toNat ≤ 1000 * 1000 := Nat.mul_le_mul (by omega) (by omega)
    rw [sizeLine_eq]
    omega
  · rw [rep_map]
    exact hds_rep k3 k.toNat
end
section
variable {K : PySem.W.Frag} {ρ lam α β γ : Type} {Γ : List (Option Tm)} {g : Gh} {H : Hp} {σ : L2.St} {τ : List (V × Tm)} {v : V} {N : α → Prop} {T : ρ → Prop} {B C : lam → Prop} {E : Er → Prop}
theorem unp2_out {d : PyData} {f : PyData × PyData → O ρ lam α} (h : Out (bindR (unp2 d) f) N T B C E) : ∃ a b, (d = .list [a, b] ∨ d = .tuple [a, b]) ∧ Out (f (a, b)) N T B C E := by
  cases d with
  | list xs =>
    match xs, h with
    | [a, b], h => exact ⟨a, b, .inl rfl, h⟩
    | [], h => exact h.elim
    | [_], h => exact h.elim
    | _ :: _ :: _ :: _, h => exact h.elim
  | tuple xs =>
    match xs, h with
    | [a, b], h => exact ⟨a, b, .inr rfl, h⟩
    | [], h => exact h.elim
    | [_], h => exact h.elim
    | _ :: _ :: _ :: _, h => exact h.elim
  | _ => exact h.elim
theorem f_unp2 {d : PyData} {f : PyData × PyData → O ρ lam α} {P : Prop} (hA : At K g Γ σ ((v, .dat (eD d)) :: τ) H) (hm : Out (bindR (unp2 d) f) N T B C E) (k : ∀ q, At K g Γ σ ((v, .dat (eW [eD q.1, eD q.2])) :: τ) H → Out (f q) N T B C E → P) : P := by
  obtain ⟨a, b, h | h, q⟩ := unp2_out hm
  · subst h
    exact k (a, b) (hA.box fun v S q => eW_l (eD_list q)) q
  · subst h
    exact k (a, b) (hA.box fun v S q => eW_t (eD_tup q)) q
end
/-! ### a text in a row of texts; tuples of texts that stand at the top -/
section
variable {K : PySem.W.Frag} {Γ : List (Option Tm)} {u : Tm}
theorem hds_strs {S : Hp} : ∀ {xs : List Str} {vs : List V}, Hds K S (xs.map eS) vs → vs = xs.map V.str
  | [], _, .nil => rfl
  | x :: xs, _, .cons r t => by rw [show _ = V.str x from r.s, hds_strs t]; rfl
theorem strs_hds {S : Hp} : ∀ (xs : List Str), Hds K S (xs.map eS) (xs.map V.str)
  | [] => .nil
  | x :: xs => .cons (.of rfl) (strs_hds xs)
theorem inV_strs (s : Str) : ∀ xs : List Str, inV (.str s) (xs.map V.str) = decide (s ∈ xs)
  | [] => rfl
  | x :: xs => by
    have ih := inV_strs s xs
    unfold inV at ih ⊢
    rw [List.map_cons, List.any_cons, ih]
    have e : eqV (.str x) (.str s) = decide (x = s) := rfl
    rw [e]
    by_cases h : x = s
    · subst h; simp
    · simp [h, Ne.symm h]
theorem flat_strs : ∀ xs : List Str, (xs.map V.str).all flatV = true
  | [] => rfl
  | x :: xs => by rw [List.map_cons, List.all_cons, flat_strs xs]; rfl
theorem o2_inS {s : Str} {xs : List Str} (hq : IsQ Γ u (xs.map eS)) : O2 K Γ (rIn K false) (.dat (eS s)) u (.dat (eB (decide (s ∈ xs)))) := fun g σ τ H x y Q ⟨S, h⟩ k => by
  obtain ⟨a, vs, rfl, h2, h3⟩ := h.isQ List.mem_cons_self hq
  have e := h.pop.top
  have ex : x = .str s := Hd.s e
  rw [hds_strs h3] at h2
  subst ex
  exact ⟨a, _, rfl, h2, rfl, flat_strs xs, by rw [inV_strs]; exact k _ _ ⟨S, h.pop.pop.push (.of rfl)⟩⟩
theorem o2_ninS {s : Str} {xs : List Str} (hq : IsQ Γ u (xs.map eS)) : O2 K Γ (rIn K true) (.dat (eS s)) u (.dat (eB (!decide (s ∈ xs)))) := fun g σ τ H x y Q ⟨S, h⟩ k => by
  obtain ⟨a, vs, rfl, h2, h3⟩ := h.isQ List.mem_cons_self hq
  have e := h.pop.top
  have ex : x = .str s := Hd.s e
  rw [hds_strs h3] at h2
  subst ex
  exact ⟨a, _, rfl, h2, rfl, flat_strs xs, by rw [inV_strs]; exact k _ _ ⟨S, h.pop.pop.push (.of rfl)⟩⟩
theorem ev_gtup {a : Addr} {xs : List Str} (h : ∀ H, SqT K H a (xs.map V.str)) : EV K Γ (tC (.ref a)) (.dat (eT eS xs)) := fun g σ τ H Q ⟨S, hA⟩ k =>
  k _ _ ⟨S, hA.push ⟨S, Same.refl S, a, _, rfl, h S, strs_hds xs⟩⟩
end
theorem sqT_K {K : PySem.W.Frag} {H : Hp} {a : Addr} {dd : Option Addr} {its : Array Value} {n : Nat} {sl : Array (Option Value)} {xs : List V} (h : K.lookup a = some ⟨.type "tuple", dd, .seq its n, sl⟩) (hz : its.size ≤ sizeLine) (hv : Vals xs its.toList) : SqT K H a xs :=
  .inr ⟨_, its, n, h, rfl, rfl, hz, hv⟩
end Gv

set_option Elab.async false
set_option linter.all false
set_option maxRecDepth 100000
set_option maxHeartbeats 4000000
/-! Gv: keyword-only parameters -/
namespace Gv
open PySem L2
structure KwB (K : PySem.W.Frag) (fd : FuncData) (ps : List Str) (n : Nat) (ks : List Str) : Prop where
  to : ∀ (s : Shared) (us ws : List Value), us.length = n → ws.length = ks.length → BindsTo s fd ⟨us, ks.zip ws⟩ (ps.zip (us ++ ws))
structure DfK (K : PySem.W.Frag) (mg : Str → Option Value) (x : Str) (st : Stmt) (f : Addr) (fd : FuncData) (pn : List Str) (n : Nat) (ks : List Str) : Prop where
  F : Fun K x x st f fd
  g : mg x = some (.ref f)
  b : KwB K fd pn n ks
def tCallKS (n m : Nat) (sp : Sp) (E : St → XK) (t tk : TA) : TE := fun σ H Q => t σ H fun vs H1 => tk σ H1 fun zs H2 => vs.length = n ∧ zs.length = m ∧ sp (vs ++ zs) H2 Q (E σ)
section
variable {X : Cx} {CX : CXT} {k n : Nat} {f : Addr} {fd : FuncData} {ps ks : List Str} {sp : Sp} {E : St → XK} {x : Str} {p pos : Pos} {e : Expr} {es : List Expr} {kws : List Keyword} {t tk : TA}
theorem run_fnKS {pins : List (Addr × Obj)} {σ : St} {H : Hp} {s : Shared} {Q : VK} {us ws : List Value} {vs zs : List V} (F : FnOk X.prog X.w X.K X.mg X.base CX k f fd ps sp) (hr : Room k X.A) (hb : KwB X.K fd ps n ks) (hx : PassesAt CX X σ (E σ))
    (I : Inv X pins σ H s) (r : Vals vs us) (rz : Vals zs ws) (l1 : vs.length = n) (l2 : zs.length = ks.length) (h : sp (vs ++ zs) H Q (E σ)) : wpAny (model X.prog X.w) X.A (call (.ref f) us (ks.zip ws)) (EP X pins σ Q) X.xe s := by
  have r2 := r.append rz
  refine wpAny_call (codeAny_mono (F.run X.A X.stack s H ⟨us, ks.zip ws⟩ (us ++ ws) (vs ++ zs) Q (E σ) hr I.env0 (hb.to s us ws (r.length.symm.trans l1) (rz.length.symm.trans l2)) r2 h) fun r s' hq => ?_)
  cases r with
  | error e => exact hx pins H s e s' I hq
  | ok fl =>
    cases fl with
    | ret u => exact I.after hq
    | next => exact False.elim hq
    | brk => exact False.elim hq
    | cont => exact False.elim hq
theorem pe_callKS (F : FnOk X.prog X.w X.K X.mg X.base CX k f fd ps sp) (hr : Room k X.A) (hg : Gl X x) (hm : X.mg x = some (.ref f)) (hk : PySem.W.keepIn X.K (.ref f) = true) (hb : KwB X.K fd ps n ks) (hx : ∀ σ, PassesAt CX X σ (E σ))
    (ha : PA X (e :: es) t) (hkw : PK X kws tk) (hall : (backToKw pos (keywordEach kws X.env)).all (·.1.isSome) = true := by rfl) (hks : (backToKw pos (keywordEach kws X.env)).filterMap (·.1) = ks := by rfl)
    (hdb : (x == ("__debug__" : Str)) = false := by decide) (he : starEach (e :: es) X.env = (false, eval e X.env) :: starEach es X.env := by rfl)
    (hpl : ((backTo pos (starEach (e :: es) X.env)).any (·.1) || (backToKw pos (keywordEach kws X.env)).any (·.1.isNone)) = false := by rfl) :
    PE X (.Call (.Name x p) (e :: es) kws pos) (tCallKS n ks.length sp E t tk) := by
  refine ⟨fun pins s σ H Q I h => ?_⟩
  refine wpAny_Call_Name_kw (ld_glob I hg hm ?_ hdb)
  refine PySem.W.callWith_KW (h₀ := X.base) I.ok.mod.kin hk hall (thn (ha.run pos pins s σ H _ I h) fun us s1 ⟨vs, H1, I1, r, q⟩ => ?_) hpl he
  refine thn (hkw.run pos pins s1 σ H1 _ I1 q) fun ws s2 ⟨zs, H2, I2, rz, l1, l2, q2⟩ => ⟨I2.kIn, ?_⟩
  rw [hks]
  exact run_fnKS F hr hb (hx σ) I2 r rz l1 l2 q2
end
section
variable {σ : St} {H : Hp} {Q : VK} {ta tb tc td : TE} {sp : Sp} {EW : St → XK}
theorem x_callK1 (h : ta σ H fun x H1 => tb σ H1 fun y H2 => [x].length = 1 ∧ [y].length = 1 ∧ sp [x, y] H2 Q (EW σ)) : tCallKS 1 1 sp EW (tCons ta tNil) (tCons tb tNil) σ H Q := h
theorem x_callK2 (h : ta σ H fun x H1 => tb σ H1 fun y H2 => tc σ H2 fun z H3 => [x, y].length = 2 ∧ [z].length = 1 ∧ sp [x, y, z] H3 Q (EW σ)) : tCallKS 2 1 sp EW (tCons ta (tCons tb tNil)) (tCons tc tNil) σ H Q := h
theorem x_callD1 {i : Int} (h : ta σ H fun x H1 => sp [x, .int i] H1 Q (EW σ)) : tCallSD sp [.int i] EW (tCons ta tNil) σ H Q := h
end
section
variable {K : PySem.W.Frag} {ρ lam α : Type} {Γ : List (Option Tm)} {g : Gh} {H : Hp} {σ : St} {τ : List (V × Tm)} {v : V} {N : α → Prop} {T : ρ → Prop} {B C : lam → Prop} {E : Er → Prop} {P : Prop}
theorem f_str1 {d : PyData} {f : Str → O ρ lam α} {w : V} {s : Tm} (hA : At K g Γ σ ((w, s) :: (v, .dat (eD d)) :: τ) H) (hm : Out (bindR (strD d) f) N T B C E) (k : ∀ i, At K g Γ σ ((w, s) :: (v, .dat (eS i)) :: τ) H → Out (f i) N T B C E → P) : P := by
  cases d with
  | str i =>
    refine k i ?_ hm
    obtain ⟨S, h⟩ := hA
    refine ⟨S, ?_⟩
    have p : ((w, s) :: (v, Tm.dat (eD (PyData.str i))) :: τ).Perm ((v, Tm.dat (eD (PyData.str i))) :: (w, s) :: τ) := .swap _ _ _
    have h2 := h.perm p
    have q : Hd K (eS i) v S := by
      obtain ⟨S0, e, q⟩ := h2.top
      have q : Dp K S0 v (.str i) := q
      cases q
      exact .of rfl
    exact (h2.pop.push q).perm (.swap _ _ _)
  | _ => exact hm.elim
theorem At.pushI (i : Int) (h : At K g Γ σ τ H) : At K g Γ σ ((.int i, .dat (eI i)) :: τ) H := by
  obtain ⟨S, h⟩ := h
  exact ⟨S, h.push (.of rfl)⟩
end
/-! ### + of lists of any standing -/
def rCatS (K : PySem.W.Frag) : R2 := fun x y H Q => ∃ l b xs zs, x = .ref l ∧ y = .ref b ∧ SqL K H l xs ∧ SqL K H b zs ∧ xs.length + zs.length ≤ sizeLine ∧ ∀ p, H p = none → Q (.ref p) (upd H p (.lst (xs ++ zs)))
open PyProof.Rows in
theorem op_catS {X : Cx} : OpR X (binaryOp .Add) (rCatS X.K) := by
  intro pins s σ H x y v u Q I rx ry h
  obtain ⟨l, b, xs, zs, rfl, rfl, hH, hB, hz, q⟩ := h
  cases rx
  cases ry
  obtain ⟨its, r, pl, hl⟩ := I.list hH
  obtain ⟨its2, r2, pl2, hl2⟩ := I.list hB
  obtain ⟨⟨cls, dd, data, sl⟩, ho, hc, n, hd⟩ := pl.isList
  obtain ⟨⟨cls2, dd2, data2, sl2⟩, ho2, hc2, n2, hd2⟩ := pl2.isList
  simp only at hc hd hc2 hd2
  subst hc hd hc2 hd2
  have e : its.toArray ++ its2.toArray = (its ++ its2).toArray := by simp
  have e1 := r.length
  have e2 := r2.length
  refine PySem.concat_meets ⟨_, ho, rfl⟩ ⟨_, ho2, rfl⟩ PySem.noFill_list_add PySem.seq_list_add PySem.F.slot_list_add PySem.F.entry_list_add (PySem.F.args_list_add_2 _ _) (list_addW l b its.toArray its2.toArray n n2 dd dd2 sl sl2 (by rw [List.size_toArray, List.size_toArray, ← e1, ← e2]; exact hz)) ⟨ho, ho2, ?_⟩
  rw [e]
  exact ⟨.ref s.heap.objs.size, _, I.laid (t' := s.toks) (o := .lst (xs ++ zs)) (fun b ob q => Heap.get?_push_of_some _ q) (Nat.le_refl _) ⟨by rw [List.length_append]; exact hz, _, _, r.append r2, Heap.get?_push_size _ rfl⟩, rfl, q _ (I.hok.fresh (Nat.le_refl _))⟩
theorem o2_catS {K : PySem.W.Frag} {Γ : List (Option Tm)} {α : Type} {e : α → VP} {t u : Tm} {xs ys : List α} (h1 : IsL Γ t (xs.map e)) (h2 : IsL Γ u (ys.map e)) : O2M K Γ (rCatS K) t u (catR xs ys) (fun c => .own none (.lst (c.map e))) := At.part2 fun hz => fun g σ τ H x y Q ⟨S, h⟩ k => by
  obtain ⟨a, vs, rfl, a2, a3⟩ := h.isL (List.mem_cons_of_mem _ List.mem_cons_self) h1
  obtain ⟨b, ws, rfl, b2, b3⟩ := h.isL List.mem_cons_self h2
  have hz' : xs.length + ys.length ≤ 1000000 := of_decide_eq_true hz
  refine ⟨a, b, vs, ws, rfl, rfl, a2, b2, ?_, fun p hn => k _ _ ⟨S, h.pop.pop.fresh hn ⟨_, rfl, ?_⟩⟩⟩
  · rw [a3.len, b3.len, List.length_map, List.length_map]; exact le_line hz'
  · rw [List.map_append]; exact a3.append b3
theorem boxL2 {K : PySem.W.Frag} {α β : Type} {e1 : α → VP} {d1 : α → PyData} {e2 : β → VP} {d2 : β → PyData} (h1 : Bx e1 d1) (h2 : Bx e2 d2) {a : α} {b : β} (v : V) (S : Hp) (h : Hd K (rL [e1 a, e2 b]) v S) : Hd K (eL eD [d1 a, d2 b]) v S := by
  obtain ⟨p, vs, rfl, q, hd⟩ := Hd.l h
  cases hd with
  | cons x1 r1 =>
    cases r1 with
    | cons x2 r2 =>
      cases r2
      exact .of ⟨p, _, rfl, q, .cons (.of (h1 K a _ S x1)) (.cons (.of (h2 K b _ S x2)) .nil)⟩
def tupD : PyData → R (List PyData)
  | .tuple xs => .nx xs
  | _ => .stuck
theorem f_tupD {K : PySem.W.Frag} {ρ lam α : Type} {Γ : List (Option Tm)} {g : Gh} {H : Hp} {σ : St} {τ : List (V × Tm)} {v : V} {N : α → Prop} {T : ρ → Prop} {B C : lam → Prop} {E : Er → Prop} {P : Prop} {d : PyData} {f : List PyData → O ρ lam α} (hA : At K g Γ σ ((v, .dat (eD d)) :: τ) H) (hm : Out (bindR (tupD d) f) N T B C E) (k : ∀ xs, At K g Γ σ ((v, .dat (eT eD xs)) :: τ) H → Out (f xs) N T B C E → P) : P := by
  cases d with
  | tuple xs => exact k xs (hA.box fun v S q => eD_tup q) hm
  | _ => exact hm.elim
end Gv

set_option Elab.async false
set_option linter.all false
set_option maxRecDepth 100000
set_option maxHeartbeats 1000000
/-! Gm: how mirrors are read -/
namespace Gv
open PySem L2
section
variable {ρ lam α β γ σ : Type}
@[simp] theorem bindR_nx (a : α) (f : α → O ρ lam β) : bindR (.nx a) f = f a := rfl
@[simp] theorem bindR_er (x : Er) (f : α → O ρ lam β) : bindR (.er x) f = .er x := rfl
@[simp] theorem bind_nx (a : α) (f : α → O ρ lam β) : O.bind (.nx a) f = f a := rfl
@[simp] theorem bind_rt (a : ρ) (f : α → O ρ lam β) : O.bind (.rt a) f = .rt a := rfl
@[simp] theorem bind_er (a : Er) (f : α → O ρ lam β) : O.bind (.er a : O ρ lam α) f = .er a := rfl
@[simp] theorem lt_eq (e : β) (f : β → γ) : lt e f = f e := rfl
@[simp] theorem fin_rt (r : ρ) (d : α → R ρ) : fin (.rt r) d = .nx r := rfl
@[simp] theorem fin_nx (r : α) (d : α → R ρ) : fin (.nx r) d = d r := rfl
@[simp] theorem fin_er (x : Er) (d : α → R ρ) : fin (.er x) d = .er x := rfl
@[simp] theorem forO_nil (f : σ → β → O ρ σ σ) (s : σ) : (forO f [] s : O ρ lam σ) = .nx s := rfl
theorem forO_cons {f : σ → β → O ρ σ σ} {x : β} {xs : List β} {s s' : σ} (h : f s x = .nx s') : (forO f (x :: xs) s : O ρ lam σ) = forO f xs s' := by
  show (match f s x with
    | .nx s' => forO f xs s' | .ct s' => forO f xs s' | .bk s' => .nx s' | .rt r => .rt r | .er x => .er x | .stuck => .stuck) = _
  rw [h]
theorem forO_er {f : σ → β → O ρ σ σ} {x : β} {xs : List β} {s : σ} {e : Er} (h : f s x = .er e) : (forO f (x :: xs) s : O ρ lam σ) = .er e := by
  show (match f s x with
    | .nx s' => forO f xs s' | .ct s' => forO f xs s' | .bk s' => .nx s' | .rt r => .rt r | .er x => .er x | .stuck => .stuck) = _
  rw [h]
theorem forO_rt {f : σ → β → O ρ σ σ} {x : β} {xs : List β} {s : σ} {e : ρ} (h : f s x = .rt e) : (forO f (x :: xs) s : O ρ lam σ) = .rt e := by
  show (match f s x with
    | .nx s' => forO f xs s' | .ct s' => forO f xs s' | .bk s' => .nx s' | .rt r => .rt r | .er x => .er x | .stuck => .stuck) = _
  rw [h]
/-- each turn goes on; I by the turn -/
theorem forO_ind {f : σ → β → O ρ σ σ} (I : Nat → σ → Prop) : ∀ (xs : List β) (k : Nat) (s : σ), I k s → (∀ i s x, xs[i]? = some x → I (k + i) s → ∃ s', f s x = .nx s' ∧ I (k + i + 1) s') → ∃ s', (forO f xs s : O ρ lam σ) = .nx s' ∧ I (k + xs.length) s'
  | [], k, s, h0, _ => ⟨s, rfl, h0⟩
  | x :: xs, k, s, h0, h => by
    obtain ⟨s1, e, h1⟩ := h 0 s x rfl h0
    obtain ⟨s2, e2, h2⟩ := forO_ind I xs (k + 1) s1 h1 fun i s y hy hi => by
      have q := h (i + 1) s y (by simpa using hy) (by rw [show k + (i + 1) = k + 1 + i by omega]; exact hi)
      rw [show k + (i + 1) + 1 = k + 1 + i + 1 by omega] at q
      exact q
    refine ⟨s2, by rw [forO_cons e]; exact e2, ?_⟩
    rw [List.length_cons, show k + (xs.length + 1) = k + 1 + xs.length by omega]
    exact h2
theorem forO_inv {f : σ → β → O ρ σ σ} (I : σ → Prop) (xs : List β) (s : σ) (h0 : I s) (h : ∀ s x, x ∈ xs → I s → ∃ s', f s x = .nx s' ∧ I s') : ∃ s', (forO f xs s : O ρ lam σ) = .nx s' ∧ I s' := by
  obtain ⟨s', e, q⟩ := forO_ind (lam := lam) (f := f) (fun _ => I) xs 0 s h0 fun i s x hx hi => h s x (List.mem_of_getElem? hx) hi
  exact ⟨s', e, q⟩
/-- each turn is a step of a fold -/
theorem forO_fold {f : σ → β → O ρ σ σ} (g : σ → β → σ) : ∀ (xs : List β) (s : σ) (I : σ → Prop), I s → (∀ s x, x ∈ xs → I s → f s x = .nx (g s x) ∧ I (g s x)) → (forO f xs s : O ρ lam σ) = .nx (xs.foldl g s) ∧ I (xs.foldl g s)
  | [], s, I, h0, _ => ⟨rfl, h0⟩
  | x :: xs, s, I, h0, h => by
    obtain ⟨e, h1⟩ := h s x List.mem_cons_self h0
    rw [forO_cons e]
    exact forO_fold g xs (g s x) I h1 fun s y hy hi => h s y (List.mem_cons_of_mem _ hy) hi
theorem lcR_map {s : σ} {f : σ → β → R (σ × Option γ)} (g : β → γ) : ∀ (xs : List β) (acc : List γ), (∀ b, b ∈ xs → f s b = .nx (s, some (g b))) → acc.length + xs.length ≤ 1000000 → lcR f xs s acc = .nx (s, acc ++ xs.map g)
  | [], acc, _, _ => by rw [List.map_nil, List.append_nil]; rfl
  | x :: xs, acc, h, hl => by
    have e := h x List.mem_cons_self
    have hl' : acc.length < 1000000 := by simp at hl; omega
    unfold lcR
    rw [e]
    show (if acc.length < 1000000 then lcR f xs s (acc ++ [g x]) else .stuck) = _
    rw [if_pos hl', lcR_map g xs (acc ++ [g x]) (fun b hb => h b (List.mem_cons_of_mem _ hb)) (by simp at hl ⊢; omega), List.append_assoc]
    rfl
theorem gd_true {c : Bool} {a : α} (h : c = true) : gd c a = .nx a := by
  subst h
  rfl
theorem modR_nx {a b : Int} (h : 0 < b) : modR a b = .nx (a % b) := gd_true (decide_eq_true h)
theorem divR_nx {a b : Int} (h : 0 < b) (h2 : b < 1073741824) : divR a b = .nx (a / b) := gd_true (by simp [h, h2])
theorem mulR_nx {a b : Int} (h : 0 ≤ a ∧ a < 1000000000000000000 ∨ 0 ≤ b ∧ b < 1000000000000000000) : mulR a b = .nx (a * b) := by
  unfold mulR
  exact gd_true (by
    simp only [Bool.or_eq_true, Bool.and_eq_true, decide_eq_true_eq]
    omega)
theorem rngR_nx {a b : Int} (h : -1000000000 ≤ a ∧ a ≤ 1000000000 ∧ -1000000000 ≤ b ∧ b ≤ 1000000000) : rngR a b = .nx (rangeL a b) := by
  rw [rngR_eq]
  exact gd_true (by simp only [Bool.and_eq_true, decide_eq_true_eq]; omega)
theorem appR_nx {xs : List α} {x : α} (h : xs.length < 1000000) : appR xs x = .nx (xs ++ [x]) := gd_true (decide_eq_true h)
theorem catR_nx {xs ys : List α} (h : xs.length + ys.length ≤ 1000000) : catR xs ys = .nx (xs ++ ys) := gd_true (decide_eq_true h)
theorem ixN_nat {n k : Nat} (h : k < n) : ixN n (k : Int) = some k := by
  unfold ixN
  rw [if_pos (by omega), if_pos (by omega)]
  rfl
theorem idx_nat {xs : List α} {k : Nat} {a : α} (h : xs[k]? = some a) : idx xs (k : Int) = .nx a := by
  have hk : k < xs.length := (List.getElem?_eq_some_iff.mp h).1
  unfold idx atI
  rw [ixN_nat hk]
  show (match xs[k]? with
    | some a => O.nx a
    | none => .stuck) = _
  rw [h]
theorem mem_rangeL {a b x : Int} : x ∈ rangeL a b ↔ a ≤ x ∧ x < b := by
  unfold rangeL
  simp only [List.mem_map, List.mem_range]
  constructor
  · rintro ⟨i, h1, rfl⟩
    omega
  · rintro ⟨h1, h2⟩
    exact ⟨(x - a).toNat, by omega, by omega⟩
theorem rangeL_get0 {n i : Nat} {x : Int} (h : (rangeL 0 (n : Int))[i]? = some x) : x = (i : Int) ∧ i < n := by
  have e := rangeL_get h
  have l := (List.getElem?_eq_some_iff.mp h).1
  rw [rangeL_len] at l
  omega
/-! ### what a mirror ends with -/
variable {N : α → Prop} {N' : β → Prop} {T : ρ → Prop} {B C : lam → Prop} {E : Er → Prop}
theorem o_bindR {m : R α} {f : α → O ρ lam β} (h : OutR m (fun a => Out (f a) N' T B C E) E) : Out (bindR m f) N' T B C E := by
  cases m <;> first | exact h | (rename_i z; exact z.elim)
theorem o_bind {m : O ρ lam α} {f : α → O ρ lam β} (h : Out m (fun a => Out (f a) N' T B C E) T B C E) : Out (m.bind f) N' T B C E := by
  cases m <;> exact h
theorem o_lt {e : γ} {f : γ → O ρ lam α} (h : Out (f e) N T B C E) : Out (lt e f) N T B C E := h
theorem o_ite {b : Bool} {m1 m2 : O ρ lam α} (h1 : b = true → Out m1 N T B C E) (h2 : b = false → Out m2 N T B C E) : Out (if b then m1 else m2) N T B C E := by
  cases b with
  | true => exact h1 rfl
  | false => exact h2 rfl
theorem o_nx {a : α} (h : N a) : Out (.nx a : O ρ lam α) N T B C E := h
theorem o_rt {a : ρ} (h : T a) : Out (.rt a : O ρ lam α) N T B C E := h
theorem o_er {a : Er} (h : E a) : Out (.er a : O ρ lam α) N T B C E := h
theorem o_fin {m : O ρ Empty α} {d : α → R ρ} {N : ρ → Prop} (h : Out m (fun a => OutR (d a) N E) N (fun _ => True) (fun _ => True) E) : OutR (fin m d) N E := by
  cases m <;> first | exact h | (rename_i z; exact z.elim)
theorem o_gd {c : Bool} {a : α} (h : c = true) (k : N a) : OutR (gd c a) N E := by
  rw [gd_true h]
  exact k
theorem o_eq {m : R α} {a : α} (h : m = .nx a) (k : N a) : OutR m N E := by
  rw [h]
  exact k
theorem o_val {m : R α} (h : OutR m N (fun _ => False)) : ∃ a, m = .nx a ∧ N a := by
  cases m with
  | nx a => exact ⟨a, rfl, h⟩
  | rt r => exact r.elim
  | bk r => exact r.elim
  | ct r => exact r.elim
  | er x => exact h.elim
  | stuck => exact h.elim
theorem o_forO {f : σ → β → O ρ σ σ} {N : σ → Prop} (I : Nat → σ → Prop) : ∀ {xs : List β} {k : Nat} {s : σ}, I k s → (∀ i s x, xs[i]? = some x → I (k + i) s → Out (f s x) (I (k + i + 1)) T N (I (k + i + 1)) E) → (∀ s, I (k + xs.length) s → N s) → Out (forO f xs s : O ρ lam σ) N T B C E
  | [], k, s, h0, _, hk => hk s h0
  | x :: xs, k, s, h0, h, hk => by
    have q := h 0 s x rfl h0
    have go : ∀ s', I (k + 1) s' → Out (forO f xs s' : O ρ lam σ) N T B C E := fun s' h1 => o_forO I (k := k + 1) h1 (fun i s y hy hi => by
      have q := h (i + 1) s y (by simpa using hy) (by rw [show k + (i + 1) = k + 1 + i by omega]; exact hi)
      rw [show k + (i + 1) + 1 = k + 1 + i + 1 by omega] at q
      exact q) fun s hs => hk s (by rw [List.length_cons, show k + (xs.length + 1) = k + 1 + xs.length by omega]; exact hs)
    show Out (match f s x with
      | .nx s' => forO f xs s' | .ct s' => forO f xs s' | .bk s' => .nx s' | .rt r => .rt r | .er x => .er x | .stuck => .stuck) N T B C E
    cases e : f s x <;> rw [e] at q
    · exact go _ q
    · exact q
    · exact q
    · exact go _ q
    · exact q
    · exact q
theorem o_for {f : σ → β → O ρ σ σ} {N : σ → Prop} (I : Nat → σ → Prop) {xs : List β} {s : σ} (h0 : I 0 s) (h : ∀ i s x, xs[i]? = some x → I i s → Out (f s x) (I (i + 1)) T N (I (i + 1)) E) (hk : ∀ s, I xs.length s → N s) : Out (forO f xs s : O ρ lam σ) N T B C E :=
  o_forO I (k := 0) h0 (fun i s x hx hi => by rw [Nat.zero_add] at hi ⊢; exact h i s x hx hi) fun s hs => by rw [Nat.zero_add] at hs; exact hk s hs
theorem o_while {c : σ → R (σ × Bool)} {f : σ → O ρ σ σ} {N : σ → Prop} (I : σ → Prop) (m : σ → Nat) (h : ∀ s, I s → OutR (c s) (fun sb => (sb.2 = false → N sb.1) ∧ (sb.2 = true → Out (f sb.1) (fun s' => I s' ∧ m s' < m s) T N (fun s' => I s' ∧ m s' < m s) E)) E) :
    ∀ (n : Nat) (s : σ), I s → m s < n → Out (whileO c f n s : O ρ lam σ) N T B C E
  | 0, s, _, hm => absurd hm (by omega)
  | n + 1, s, hI, hm => by
    unfold whileO
    refine o_bindR ((h s hI).imp (fun sb q => ?_) fun _ q => q)
    cases e : sb.2 with
    | false => exact q.1 e
    | true =>
      have q2 := q.2 e
      rw [if_pos rfl]
      have go : ∀ s', (I s' ∧ m s' < m s) → Out (whileO c f n s' : O ρ lam σ) N T B C E := fun s' z => o_while I m h n s' z.1 (by omega)
      cases e3 : f sb.1 <;> rw [e3] at q2
      · exact go _ q2
      · exact q2
      · exact q2
      · exact go _ q2
      · exact q2
      · exact q2
theorem o_lcR {s : σ} {f : σ → β → R (σ × Option γ)} {xs : List β} {N : σ × List γ → Prop} (g : β → γ) (h : ∀ b, b ∈ xs → OutR (f s b) (fun r => r = (s, some (g b))) (fun _ => False)) (hl : xs.length ≤ 1000000) (hk : N (s, xs.map g)) : OutR (lcR f xs s []) N E := by
  refine o_eq (lcR_map g xs [] (fun b hb => ?_) (by simpa using hl)) (by simpa using hk)
  obtain ⟨r, e, q⟩ := o_val (h b hb)
  rw [e, q]
theorem o_r {m : R α} (h : Out m N (fun _ => True) (fun _ => True) (fun _ => True) E) : OutR m N E := h.outR
end
end Gv

set_option Elab.async false
set_option linter.all false
set_option maxRecDepth 100000
set_option maxHeartbeats 1000000
/-! rows of timers: the rules, plain -/
namespace Rw
abbrev C := Bool × Nat
inductive Rule where
  | no | nothing | added | swing | tail
deriving DecidableEq
def ruleH : List C → Rule
  | [] => .no
  | [c] => if c.2 = 0 then .nothing else .no
  | [c, c1] => if c.2 = 0 then .nothing else if c1.1 = c.1 then .added else .no
  | c :: c1 :: c2 :: _ => if c.2 = 0 then .nothing else if c1.1 = c.1 then .added else if c2.1 = c.1 ∧ c1.2 ≤ c.2 then (if c1.2 ≤ c2.2 then .swing else .tail) else .no
theorem rule1 (c : C) : ruleH [c] = if c.2 = 0 then .nothing else .no := rfl
theorem rule2 (c c1 : C) : ruleH [c, c1] = if c.2 = 0 then .nothing else if c1.1 = c.1 then .added else .no := rfl
theorem rule3 (c c1 c2 : C) (t : List C) : ruleH (c :: c1 :: c2 :: t) = if c.2 = 0 then .nothing else if c1.1 = c.1 then .added else if c2.1 = c.1 ∧ c1.2 ≤ c.2 then (if c1.2 ≤ c2.2 then .swing else .tail) else .no := rfl
/-- the suffix behind the rule, and what the delay gets -/
def app : Rule → List C → List C × Nat
  | .nothing, _ :: t => (t, 0)
  | .added, c :: c1 :: t => ((c.1, c.2 + c1.2) :: t, 0)
  | .swing, c :: c1 :: c2 :: t => ((c.1, c.2 + c2.2 - c1.2) :: t, c1.2)
  | .tail, c :: c1 :: c2 :: t => ((c.1, c.2) :: (c1.1, c1.2 - c2.2) :: t, c2.2)
  | _, l => (l, 0)
def beh (row : List C) (k : Nat) : List C × Nat := (row.take k ++ (app (ruleH (row.drop k)) (row.drop k)).1, (app (ruleH (row.drop k)) (row.drop k)).2)
/-- what a rule asks of its suffix -/
theorem rule_cases (l : List C) : (ruleH l = .no) ∨ (∃ c t, l = c :: t ∧ c.2 = 0 ∧ ruleH l = .nothing) ∨ (∃ c c1 t, l = c :: c1 :: t ∧ c1.1 = c.1 ∧ ruleH l = .added) ∨
    (∃ c c1 c2 t, l = c :: c1 :: c2 :: t ∧ c1.1 ≠ c.1 ∧ c2.1 = c.1 ∧ c1.2 ≤ c.2 ∧ c1.2 ≤ c2.2 ∧ ruleH l = .swing) ∨ (∃ c c1 c2 t, l = c :: c1 :: c2 :: t ∧ c1.1 ≠ c.1 ∧ c2.1 = c.1 ∧ c1.2 ≤ c.2 ∧ c2.2 < c1.2 ∧ ruleH l = .tail) := by
  match l with
  | [] => exact .inl rfl
  | [c] =>
    by_cases h : c.2 = 0
    · exact .inr (.inl ⟨c, [], rfl, h, by rw [rule1, if_pos h]⟩)
    · exact .inl (by rw [rule1, if_neg h])
  | [c, c1] =>
    by_cases h : c.2 = 0
    · exact .inr (.inl ⟨c, [c1], rfl, h, by rw [rule2, if_pos h]⟩)
    · by_cases h2 : c1.1 = c.1
      · exact .inr (.inr (.inl ⟨c, c1, [], rfl, h2, by rw [rule2, if_neg h, if_pos h2]⟩))
      · exact .inl (by rw [rule2, if_neg h, if_neg h2])
  | c :: c1 :: c2 :: t =>
    by_cases h : c.2 = 0
    · exact .inr (.inl ⟨c, _, rfl, h, by rw [rule3, if_pos h]⟩)
    · by_cases h2 : c1.1 = c.1
      · exact .inr (.inr (.inl ⟨c, c1, _, rfl, h2, by rw [rule3, if_neg h, if_pos h2]⟩))
      · by_cases h3 : c2.1 = c.1 ∧ c1.2 ≤ c.2
        · by_cases h4 : c1.2 ≤ c2.2
          · exact .inr (.inr (.inr (.inl ⟨c, c1, c2, t, rfl, h2, h3.1, h3.2, h4, by rw [rule3, if_neg h, if_neg h2, if_pos h3, if_pos h4]⟩)))
          · exact .inr (.inr (.inr (.inr ⟨c, c1, c2, t, rfl, h2, h3.1, h3.2, by omega, by rw [rule3, if_neg h, if_neg h2, if_pos h3, if_neg h4]⟩)))
        · exact .inl (by rw [rule3, if_neg h, if_neg h2, if_neg h3])
theorem app_len (l : List C) (h : ruleH l ≠ .no) : (app (ruleH l) l).1.length < l.length := by
  rcases rule_cases l with e | ⟨c, t, rfl, _, e⟩ | ⟨c, c1, t, rfl, _, e⟩ | ⟨c, c1, c2, t, rfl, _, _, _, _, e⟩ | ⟨c, c1, c2, t, rfl, _, _, _, _, e⟩
  · exact absurd e h
  · rw [e]; simp [app]
  · rw [e]; simp [app]
  · rw [e]; simp [app]
  · rw [e]; simp [app]
theorem beh_len {row : List C} {k : Nat} (h : ruleH (row.drop k) ≠ .no) : (beh row k).1.length < row.length := by
  have a := app_len _ h
  unfold beh
  rw [List.length_append, List.length_take]
  rw [List.length_drop] at a
  have : k < row.length := by
    apply Nat.not_le.mp
    intro z
    rw [List.drop_eq_nil_of_le z] at h
    exact h rfl
  omega
/-! ### sums -/
def sumK (k : Bool) (row : List C) : Nat := ((row.filter fun c => c.1 = k).map (·.2)).sum
theorem sumK_app (k : Bool) (a b : List C) : sumK k (a ++ b) = sumK k a + sumK k b := by
  unfold sumK
  rw [List.filter_append, List.map_append, List.sum_append]
theorem sumK_cons (k : Bool) (c : C) (l : List C) : sumK k (c :: l) = (if c.1 = k then c.2 else 0) + sumK k l := by
  unfold sumK
  by_cases h : c.1 = k
  · simp [h]
  · simp [h]
theorem app_sum (k : Bool) (l : List C) : sumK k (app (ruleH l) l).1 + (app (ruleH l) l).2 = sumK k l := by
  rcases rule_cases l with e | ⟨c, t, rfl, h, e⟩ | ⟨c, c1, t, rfl, h, e⟩ | ⟨c, c1, c2, t, rfl, h1, h2, h3, h4, e⟩ | ⟨c, c1, c2, t, rfl, h1, h2, h3, h4, e⟩
  · rw [e]; cases l <;> rfl
  · rw [e]
    simp only [app, sumK_cons, h]
    split <;> omega
  · rw [e]
    simp only [app, sumK_cons, h]
    split <;> omega
  · rw [e]
    simp only [app, sumK_cons, h2]
    have : c1.1 = !c.1 := by cases hc : c.1 <;> cases hc1 : c1.1 <;> simp_all
    rw [this]
    cases c.1 <;> cases k <;> simp <;> omega
  · rw [e]
    simp only [app, sumK_cons, h2]
    have : c1.1 = !c.1 := by cases hc : c.1 <;> cases hc1 : c1.1 <;> simp_all
    rw [this]
    cases c.1 <;> cases k <;> simp <;> omega
theorem beh_sum (k : Bool) (row : List C) (p : Nat) : sumK k (beh row p).1 + (beh row p).2 = sumK k row := by
  have a := app_sum k (row.drop p)
  unfold beh
  rw [sumK_app]
  have e : sumK k row = sumK k (row.take p) + sumK k (row.drop p) := by rw [← sumK_app, List.take_append_drop]
  omega
/-! ### the path -/
structure Pt where
  cur : Int
  lo : Int
  hi : Int
  recs : List (Bool × Int)
def bump (d : Bool) (v : Int) : List (Bool × Int) → List (Bool × Int)
  | (d', w) :: r => if d' = d then (d, v) :: r else (d, v) :: (d', w) :: r
  | [] => [(d, v)]
theorem bump_same (d : Bool) (v w : Int) (r : List (Bool × Int)) : bump d v ((d, w) :: r) = (d, v) :: r := by
  show (if d = d then _ else _) = _
  rw [if_pos rfl]
theorem bump_other {d d' : Bool} (h : ¬ d' = d) (v w : Int) (r : List (Bool × Int)) : bump d v ((d', w) :: r) = (d, v) :: (d', w) :: r := by
  show (if d' = d then _ else _) = _
  rw [if_neg h]
def stepP (s : Pt) (c : C) : Pt := if c.1 then (if s.hi < s.cur + c.2 then ⟨s.cur + c.2, s.lo, s.cur + c.2, bump true (s.cur + c.2) s.recs⟩ else ⟨s.cur + c.2, s.lo, s.hi, s.recs⟩)
  else (if s.cur - c.2 < s.lo then ⟨s.cur - c.2, s.cur - c.2, s.hi, bump false (s.cur - c.2) s.recs⟩ else ⟨s.cur - c.2, s.lo, s.hi, s.recs⟩)
def okP (s : Pt) : Prop := s.lo ≤ s.cur ∧ s.cur ≤ s.hi
theorem step_ok {s : Pt} (h : okP s) (c : C) : okP (stepP s c) := by
  obtain ⟨a, b⟩ := h
  unfold stepP okP
  split <;> split <;> constructor <;> simp only <;> omega
theorem bump_bump (d : Bool) (v w : Int) (r : List (Bool × Int)) : bump d w (bump d v r) = bump d w r := by
  cases r with
  | nil => simp [bump]
  | cons x r =>
    obtain ⟨d', u⟩ := x
    by_cases h : d' = d
    · subst h
      rw [bump_same, bump_same, bump_same]
    · rw [bump_other h, bump_other h, bump_same]
theorem pt_ext {a b : Pt} (h1 : a.cur = b.cur) (h2 : a.lo = b.lo) (h3 : a.hi = b.hi) (h4 : a.recs = b.recs) : a = b := by
  cases a; cases b; simp_all
theorem step_zero {s : Pt} (h : okP s) {c : C} (hc : c.2 = 0) : stepP s c = s := by
  obtain ⟨a, b⟩ := h
  unfold stepP
  rw [hc]
  split
  · rw [if_neg (by simp; omega)]
    exact pt_ext (by simp) rfl rfl rfl
  · rw [if_neg (by simp; omega)]
    exact pt_ext (by simp) rfl rfl rfl
theorem step_add {s : Pt} (h : okP s) (d : Bool) (m n : Nat) : stepP (stepP s (d, m)) (d, n) = stepP s (d, m + n) := by
  obtain ⟨a, b⟩ := h
  cases d with
  | true =>
    unfold stepP
    simp only [if_true]
    by_cases h1 : s.hi < s.cur + (m : Int)
    · rw [if_pos h1]
      simp only
      by_cases h2 : s.cur + (m : Int) < s.cur + (m : Int) + (n : Int)
      · rw [if_pos h2, if_pos (by omega)]
        exact pt_ext (by simp; omega) rfl (by simp; omega) (by simp only; rw [bump_bump]; congr 1; omega)
      · have : n = 0 := by omega
        subst this
        rw [if_neg h2, if_pos (by omega)]
        exact pt_ext (by simp) rfl (by simp) (by simp)
    · rw [if_neg h1]
      simp only
      by_cases h2 : s.hi < s.cur + (m : Int) + (n : Int)
      · rw [if_pos h2, if_pos (by omega)]
        exact pt_ext (by simp; omega) rfl (by simp; omega) (by simp only; congr 1; omega)
      · rw [if_neg h2, if_neg (by omega)]
        exact pt_ext (by simp; omega) rfl rfl rfl
  | false =>
    unfold stepP
    simp only [Bool.false_eq_true, if_false]
    by_cases h1 : s.cur - (m : Int) < s.lo
    · rw [if_pos h1]
      simp only
      by_cases h2 : s.cur - (m : Int) - (n : Int) < s.cur - (m : Int)
      · rw [if_pos h2, if_pos (by omega)]
        exact pt_ext (by simp; omega) (by simp; omega) rfl (by simp only; rw [bump_bump]; congr 1; omega)
      · have : n = 0 := by omega
        subst this
        rw [if_neg h2, if_pos (by omega)]
        exact pt_ext (by simp) (by simp) rfl (by simp)
    · rw [if_neg h1]
      simp only
      by_cases h2 : s.cur - (m : Int) - (n : Int) < s.lo
      · rw [if_pos h2, if_pos (by omega)]
        exact pt_ext (by simp; omega) (by simp; omega) rfl (by simp only; congr 1; omega)
      · rw [if_neg h2, if_neg (by omega)]
        exact pt_ext (by simp; omega) rfl rfl rfl
/-- a dip that does not pass what stands: up a, down b with b ≤ a is no record -/
theorem step_dip {s : Pt} (h : okP s) (d : Bool) {m n : Nat} (hn : n ≤ m) : stepP (stepP s (d, m)) (!d, n) = ⟨(stepP s (d, m)).cur + (if d then -(n : Int) else n), (stepP s (d, m)).lo, (stepP s (d, m)).hi, (stepP s (d, m)).recs⟩ := by
  obtain ⟨a, b⟩ := h
  cases d with
  | true =>
    have c : (stepP s (true, m)).cur = s.cur + m ∧ (stepP s (true, m)).lo = s.lo := by
      unfold stepP
      simp only [if_true]
      split <;> exact ⟨rfl, rfl⟩
    generalize stepP s (true, m) = s1 at c
    unfold stepP
    simp only [Bool.not_true, Bool.false_eq_true, if_false, if_true]
    rw [if_neg (by omega)]
    exact pt_ext (by simp; omega) rfl rfl rfl
  | false =>
    have c : (stepP s (false, m)).cur = s.cur - m ∧ (stepP s (false, m)).hi = s.hi := by
      unfold stepP
      simp only [Bool.false_eq_true, if_false]
      split <;> exact ⟨rfl, rfl⟩
    generalize stepP s (false, m) = s1 at c
    unfold stepP
    simp only [Bool.not_false, if_true, Bool.false_eq_true, if_false]
    rw [if_neg (by omega)]
theorem step_back {s : Pt} (h : okP s) (d : Bool) {m n l : Nat} (hn : n ≤ m) : stepP ⟨(stepP s (d, m)).cur + (if d then -(n : Int) else n), (stepP s (d, m)).lo, (stepP s (d, m)).hi, (stepP s (d, m)).recs⟩ (d, n + l) = stepP (stepP s (d, m)) (d, l) := by
  have ok1 := step_ok h (d, m)
  obtain ⟨a, b⟩ := ok1
  generalize stepP s (d, m) = s1 at a b
  cases d with
  | true =>
    unfold stepP
    simp only [if_true]
    have e : s1.cur + -(n : Int) + ((n + l : Nat) : Int) = s1.cur + l := by omega
    rw [e]
  | false =>
    unfold stepP
    simp only [Bool.false_eq_true, if_false]
    have e : s1.cur + (n : Int) - ((n + l : Nat) : Int) = s1.cur - l := by omega
    rw [e]
def pth (s : Pt) (l : List C) : Pt := l.foldl stepP s
theorem pth_ok {s : Pt} (h : okP s) : ∀ l : List C, okP (pth s l)
  | [] => h
  | c :: l => pth_ok (step_ok h c) l
theorem app_pth {s : Pt} (h : okP s) (l : List C) : pth s (app (ruleH l) l).1 = pth s l := by
  rcases rule_cases l with e | ⟨c, t, rfl, hc, e⟩ | ⟨c, c1, t, rfl, hc, e⟩ | ⟨c, c1, c2, t, rfl, h1, h2, h3, h4, e⟩ | ⟨c, c1, c2, t, rfl, h1, h2, h3, h4, e⟩
  · rw [e]; cases l <;> rfl
  · rw [e]
    show pth s t = pth (stepP s c) t
    rw [step_zero h hc]
  · rw [e]
    obtain ⟨d, m⟩ := c
    obtain ⟨d1, n⟩ := c1
    replace hc : d1 = d := hc
    subst hc
    show pth (stepP s (d1, m + n)) t = pth (stepP (stepP s (d1, m)) (d1, n)) t
    rw [step_add h]
  · rw [e]
    obtain ⟨d, m⟩ := c
    obtain ⟨d1, n⟩ := c1
    obtain ⟨d2, l⟩ := c2
    replace h1 : d1 ≠ d := h1
    replace h2 : d2 = d := h2
    replace h3 : n ≤ m := h3
    replace h4 : n ≤ l := h4
    subst h2
    have : d1 = !d2 := by cases d1 <;> cases d2 <;> simp_all
    subst this
    show pth (stepP s (d2, m + l - n)) t = pth (stepP (stepP (stepP s (d2, m)) (!d2, n)) (d2, l)) t
    rw [step_dip h d2 h3]
    obtain ⟨q, rfl⟩ : ∃ q, l = n + q := ⟨l - n, by omega⟩
    rw [step_back h d2 h3, step_add h]
    congr 2
    show (d2, m + (n + q) - n) = (d2, m + q)
    congr 1
    omega
  · rw [e]
    obtain ⟨d, m⟩ := c
    obtain ⟨d1, n⟩ := c1
    obtain ⟨d2, l⟩ := c2
    replace h1 : d1 ≠ d := h1
    replace h2 : d2 = d := h2
    replace h3 : n ≤ m := h3
    replace h4 : l < n := h4
    subst h2
    have : d1 = !d2 := by cases d1 <;> cases d2 <;> simp_all
    subst this
    show pth (stepP (stepP s (d2, m)) (!d2, n - l)) t = pth (stepP (stepP (stepP s (d2, m)) (!d2, n)) (d2, l)) t
    rw [step_dip h d2 (show n - l ≤ m by omega), step_dip h d2 h3]
    congr 1
    have ok1 := step_ok h (d2, m)
    obtain ⟨a, b⟩ := ok1
    have lohi : ∀ x : Int, True := fun _ => trivial
    cases d2 with
    | true =>
      have c : (stepP s (true, m)).cur = s.cur + m ∧ (stepP s (true, m)).lo = s.lo := by
        unfold stepP
        simp only [if_true]
        split <;> exact ⟨rfl, rfl⟩
      generalize stepP s (true, m) = s1 at a b c
      unfold stepP
      simp only [if_true]
      rw [if_neg (by omega)]
      exact pt_ext (by simp; omega) rfl rfl rfl
    | false =>
      have c : (stepP s (false, m)).cur = s.cur - m ∧ (stepP s (false, m)).hi = s.hi := by
        unfold stepP
        simp only [Bool.false_eq_true, if_false]
        split <;> exact ⟨rfl, rfl⟩
      generalize stepP s (false, m) = s1 at a b c
      unfold stepP
      simp only [Bool.false_eq_true, if_false]
      rw [if_neg (by omega)]
      exact pt_ext (by simp; omega) rfl rfl rfl
def p0 : Pt := ⟨0, 0, 0, []⟩
def inv (row : List C) : Pt := pth p0 row
theorem p0_ok : okP p0 := ⟨Int.le_refl _, Int.le_refl _⟩
theorem beh_inv (row : List C) (k : Nat) : inv (beh row k).1 = inv row := by
  unfold beh inv
  have e : pth p0 row = pth (pth p0 (row.take k)) (row.drop k) := by
    unfold pth
    rw [← List.foldl_append, List.take_append_drop]
  have e2 : ∀ l, pth p0 (row.take k ++ l) = pth (pth p0 (row.take k)) l := fun l => by
    unfold pth
    rw [List.foldl_append]
  rw [e2, e]
  exact app_pth (pth_ok p0_ok _) _
/-! ### rows without a rule -/
def Nf (row : List C) : Prop := ∀ k, k < row.length → ruleH (row.drop k) = .no
theorem Nf.tail {c : C} {l : List C} (h : Nf (c :: l)) : Nf l := fun k hk => by
  have := h (k + 1) (by simp; omega)
  rw [List.drop_succ_cons] at this
  exact this
/-- alternating, and growing but for the last -/
def Gr (p : Nat) (d : Bool) : List C → Prop
  | [] => True
  | c :: t => c.1 = !d ∧ 0 < c.2 ∧ (t ≠ [] → p < c.2) ∧ Gr c.2 c.1 t
theorem nf_gr : ∀ {l : List C} {c : C}, Nf (c :: l) → 0 < c.2 ∧ Gr c.2 c.1 l
  | [], c, h => by
    have := h 0 (by simp)
    rw [List.drop_zero] at this
    rw [rule1] at this
    by_cases z : c.2 = 0
    · rw [if_pos z] at this; cases this
    · exact ⟨by omega, trivial⟩
  | [c1], c, h => by
    have e := h 0 (by simp)
    rw [List.drop_zero] at e
    rw [rule2] at e
    have q := nf_gr h.tail
    by_cases z : c.2 = 0
    · rw [if_pos z] at e; cases e
    · rw [if_neg z] at e
      by_cases z2 : c1.1 = c.1
      · rw [if_pos z2] at e; cases e
      · refine ⟨by omega, ?_, q.1, fun w => absurd rfl w, q.2⟩
        cases hc : c.1 <;> cases hc1 : c1.1 <;> simp_all
  | c1 :: c2 :: t, c, h => by
    have e := h 0 (by simp)
    rw [List.drop_zero] at e
    rw [rule3] at e
    have q := nf_gr h.tail
    by_cases z : c.2 = 0
    · rw [if_pos z] at e; cases e
    · rw [if_neg z] at e
      by_cases z2 : c1.1 = c.1
      · rw [if_pos z2] at e; cases e
      · rw [if_neg z2] at e
        have a1 : c1.1 = !c.1 := by cases hc : c.1 <;> cases hc1 : c1.1 <;> simp_all
        have a2 : c2.1 = !c1.1 := q.2.1
        have a3 : c2.1 = c.1 := by rw [a2, a1, Bool.not_not]
        refine ⟨by omega, a1, q.1, fun _ => ?_, q.2⟩
        by_cases z3 : c1.2 ≤ c.2
        · rw [if_pos ⟨a3, z3⟩] at e
          split at e <;> cases e
        · omega
/-- the row told by the records, oldest first -/
def dec : Int → List (Bool × Int) → Int → List C
  | prev, [], cur => if cur = prev then [] else [(decide (prev < cur), (cur - prev).natAbs)]
  | prev, (d, v) :: rs, cur => (d, (v - prev).natAbs) :: dec v rs cur
theorem dec_gr : ∀ (l : List C) (s : Pt) (p : Nat) (d : Bool) (r : List (Bool × Int)), 0 < p → s.recs = (d, s.cur) :: r → (if d then s.hi = s.cur ∧ s.lo = s.cur - p else s.lo = s.cur ∧ s.hi = s.cur + p) → Gr p d l →
    ∃ X, (pth s l).recs.reverse = s.recs.reverse ++ X ∧ dec s.cur X (pth s l).cur = l
  | [], s, p, d, r, hp, h1, h2, _ => ⟨[], by simp [pth], by simp [dec, pth]⟩
  | c :: t, s, p, d, r, hp, h1, h2, hg => by
    obtain ⟨k, n⟩ := c
    obtain ⟨g1, g2, g3, g4⟩ := hg
    replace g1 : k = !d := g1
    replace g2 : 0 < n := g2
    replace g3 : t ≠ [] → p < n := g3
    replace g4 : Gr n k t := g4
    subst g1
    by_cases hr : p < n
    · -- a record
      have st : stepP s (!d, n) = ⟨s.cur + (if d then -(n : Int) else n), (if d then s.cur - n else s.lo), (if d then s.hi else s.cur + n), (!d, s.cur + (if d then -(n : Int) else n)) :: s.recs⟩ := by
        cases d with
        | true =>
          simp only [if_true] at h2
          unfold stepP
          simp only [Bool.not_true, Bool.false_eq_true, if_false, if_true]
          rw [if_pos (by omega)]
          refine pt_ext (by simp; omega) rfl rfl ?_
          simp only
          rw [h1, bump_other (by simp)]
          rfl
        | false =>
          simp only [Bool.false_eq_true, if_false] at h2
          unfold stepP
          simp only [Bool.not_false, if_true, Bool.false_eq_true, if_false]
          rw [if_pos (by omega)]
          refine pt_ext rfl rfl rfl ?_
          simp only
          rw [h1, bump_other (by simp)]
      obtain ⟨X, e1, e2⟩ := dec_gr t (stepP s (!d, n)) n (!d) s.recs g2 (by rw [st]) (by
        rw [st]
        cases d with
        | true => simp only [if_true] at h2 ⊢; simp; omega
        | false => simp only [Bool.false_eq_true, if_false] at h2 ⊢; simp; omega) g4
      refine ⟨(!d, s.cur + (if d then -(n : Int) else n)) :: X, ?_, ?_⟩
      · show (pth (stepP s (!d, n)) t).recs.reverse = _
        rw [e1, st]
        simp
      · show (!d, (s.cur + (if d then -(n : Int) else n) - s.cur).natAbs) :: dec (s.cur + (if d then -(n : Int) else n)) X (pth (stepP s (!d, n)) t).cur = _
        have e3 : (stepP s (!d, n)).cur = s.cur + (if d then -(n : Int) else n) := by rw [st]
        rw [← e3, e2, e3]
        congr 2
        cases d <;> simp <;> omega
    · -- the last one, no record
      have ht : t = [] := by
        apply Classical.byContradiction
        intro z
        exact hr (g3 z)
      subst ht
      have st : stepP s (!d, n) = ⟨s.cur + (if d then -(n : Int) else n), s.lo, s.hi, s.recs⟩ := by
        cases d with
        | true =>
          simp only [if_true] at h2
          unfold stepP
          simp only [Bool.not_true, Bool.false_eq_true, if_false, if_true]
          rw [if_neg (by omega)]
          exact pt_ext (by simp; omega) rfl rfl rfl
        | false =>
          simp only [Bool.false_eq_true, if_false] at h2
          unfold stepP
          simp only [Bool.not_false, if_true, Bool.false_eq_true, if_false]
          rw [if_neg (by omega)]
      refine ⟨[], ?_, ?_⟩
      · show (stepP s (!d, n)).recs.reverse = _
        rw [st]
        simp
      · show dec s.cur [] (stepP s (!d, n)).cur = _
        rw [st]
        unfold dec
        cases d with
        | true =>
          simp only [if_true]
          rw [if_neg (by omega)]
          have : decide (s.cur < s.cur + -(n : Int)) = false := decide_eq_false (by omega)
          rw [this]
          congr 2
          omega
        | false =>
          simp only [Bool.false_eq_true, if_false]
          rw [if_neg (by omega)]
          have : decide (s.cur < s.cur + (n : Int)) = true := decide_eq_true (by omega)
          rw [this]
          congr 2
          omega
theorem nf_dec {row : List C} (h : Nf row) : dec 0 (inv row).recs.reverse (inv row).cur = row := by
  cases row with
  | nil => rfl
  | cons c l =>
    obtain ⟨d, n⟩ := c
    obtain ⟨g1, g2⟩ := nf_gr h
    replace g1 : 0 < n := g1
    have st : stepP p0 (d, n) = ⟨(if d then (n : Int) else -(n : Int)), (if d then 0 else -(n : Int)), (if d then (n : Int) else 0), [(d, (if d then (n : Int) else -(n : Int)))]⟩ := by
      unfold stepP p0
      cases d with
      | true =>
        simp only [if_true]
        rw [if_pos (by omega)]
        exact pt_ext (by simp) rfl (by simp) (by simp [bump])
      | false =>
        simp only [Bool.false_eq_true, if_false]
        rw [if_pos (by omega)]
        exact pt_ext (by simp) (by simp) rfl (by simp [bump])
    obtain ⟨X, e1, e2⟩ := dec_gr l (stepP p0 (d, n)) n d [] g1 (by rw [st]) (by rw [st]; cases d <;> simp <;> omega) g2
    have e3 : (stepP p0 (d, n)).recs = [(d, (stepP p0 (d, n)).cur)] := by rw [st]
    show dec 0 (pth (stepP p0 (d, n)) l).recs.reverse (pth (stepP p0 (d, n)) l).cur = _
    rw [e1, e3]
    show (d, ((stepP p0 (d, n)).cur - 0).natAbs) :: dec (stepP p0 (d, n)).cur X (pth (stepP p0 (d, n)) l).cur = _
    rw [e2, st]
    congr 2
    cases d <;> simp
theorem nf_uniq {a b : List C} (ha : Nf a) (hb : Nf b) (h : inv a = inv b) : a = b := by
  rw [← nf_dec ha, ← nf_dec hb, h]
end Rw

set_option Elab.async false
set_option linter.all false
set_option maxRecDepth 100000
set_option maxHeartbeats 1000000
/-! timers over bits without end: plain -/
namespace Rw
abbrev Fl := Int → Prop
def op (c : C) (F : Fl) : Fl := fun t => if c.1 then ∀ i : Int, 0 ≤ i → i ≤ c.2 → F (t - i) else ∃ i : Int, 0 ≤ i ∧ i ≤ c.2 ∧ F (t - i)
def sh (d : Nat) (F : Fl) : Fl := fun t => F (t - d)
def ops (row : List C) (F : Fl) : Fl := row.foldl (fun G c => op c G) F
def Eq' (F G : Fl) : Prop := ∀ t, F t ↔ G t
theorem op_on (n : Nat) (F : Fl) (t : Int) : op (true, n) F t ↔ ∀ i : Int, 0 ≤ i → i ≤ n → F (t - i) := Iff.rfl
theorem op_off (n : Nat) (F : Fl) (t : Int) : op (false, n) F t ↔ ∃ i : Int, 0 ≤ i ∧ i ≤ n ∧ F (t - i) := by
  unfold op
  simp
theorem op_cong {F G : Fl} (h : Eq' F G) (c : C) : Eq' (op c F) (op c G) := fun t => by
  obtain ⟨k, n⟩ := c
  cases k with
  | true => rw [op_on, op_on]; exact ⟨fun q i a b => (h _).mp (q i a b), fun q i a b => (h _).mpr (q i a b)⟩
  | false => rw [op_off, op_off]; exact ⟨fun ⟨i, a, b, q⟩ => ⟨i, a, b, (h _).mp q⟩, fun ⟨i, a, b, q⟩ => ⟨i, a, b, (h _).mpr q⟩⟩
theorem op_sh (c : C) (d : Nat) (F : Fl) : Eq' (op c (sh d F)) (sh d (op c F)) := fun t => by
  obtain ⟨k, n⟩ := c
  have e : ∀ i : Int, t - i - d = t - d - i := fun i => by omega
  cases k with
  | true => show op (true, n) (sh d F) t ↔ op (true, n) F (t - d); rw [op_on, op_on]; unfold sh; simp only [e]
  | false => show op (false, n) (sh d F) t ↔ op (false, n) F (t - d); rw [op_off, op_off]; unfold sh; simp only [e]
theorem ops_cong {F G : Fl} (h : Eq' F G) : ∀ row : List C, Eq' (ops row F) (ops row G)
  | [] => h
  | c :: l => ops_cong (op_cong h c) l
theorem eq_trans {F G J : Fl} (a : Eq' F G) (b : Eq' G J) : Eq' F J := fun t => (a t).trans (b t)
theorem ops_sh (d : Nat) : ∀ (row : List C) (F : Fl), Eq' (ops row (sh d F)) (sh d (ops row F))
  | [], _ => fun _ => Iff.rfl
  | c :: l, F => eq_trans (ops_cong (op_sh c d F) l) (ops_sh d l (op c F))
/-! ### the rules -/
theorem op_zero {c : C} (h : c.2 = 0) (F : Fl) : Eq' (op c F) F := fun t => by
  obtain ⟨k, n⟩ := c
  replace h : n = 0 := h
  subst h
  cases k with
  | true =>
    rw [op_on]
    constructor
    · intro q
      have := q 0 (by omega) (by omega)
      simpa using this
    · intro q i a b
      have : i = 0 := by omega
      subst this
      simpa using q
  | false =>
    rw [op_off]
    constructor
    · rintro ⟨i, a, b, q⟩
      have : i = 0 := by omega
      subst this
      simpa using q
    · intro q
      exact ⟨0, by omega, by omega, by simpa using q⟩
theorem op_add (k : Bool) (m n : Nat) (F : Fl) : Eq' (op (k, n) (op (k, m) F)) (op (k, m + n) F) := fun t => by
  cases k with
  | true =>
    rw [op_on, op_on]
    constructor
    · intro q i a b
      by_cases h : i ≤ n
      · have := (op_on m F _).mp (q i a h) 0 (by omega) (by omega)
        simpa using this
      · have := (op_on m F _).mp (q n (by omega) (by omega)) (i - n) (by omega) (by omega)
        have e : t - (n : Int) - (i - n) = t - i := by omega
        rw [e] at this
        exact this
    · intro q i a b
      rw [op_on]
      intro j c d
      have := q (i + j) (by omega) (by omega)
      have e : t - (i + j) = t - i - j := by omega
      rw [e] at this
      exact this
  | false =>
    rw [op_off, op_off]
    constructor
    · rintro ⟨i, a, b, q⟩
      rw [op_off] at q
      obtain ⟨j, c, d, q⟩ := q
      exact ⟨i + j, by omega, by omega, by have e : t - (i + j) = t - i - j := by omega
                                           rw [e]; exact q⟩
    · rintro ⟨i, a, b, q⟩
      by_cases h : i ≤ n
      · exact ⟨i, a, h, (op_off m F _).mpr ⟨0, by omega, by omega, by simpa using q⟩⟩
      · refine ⟨n, by omega, by omega, (op_off m F _).mpr ⟨i - n, by omega, by omega, ?_⟩⟩
        have e : t - (n : Int) - (i - n) = t - i := by omega
        rw [e]
        exact q
/-- in terms of windows -/
theorem three_on (m n l : Nat) (F : Fl) (t : Int) : op (true, l) (op (false, n) (op (true, m) F)) t ↔ ∀ k : Int, 0 ≤ k → k ≤ l → ∃ j : Int, 0 ≤ j ∧ j ≤ n ∧ ∀ i : Int, 0 ≤ i → i ≤ m → F (t - (k + j + i)) := by
  have e : ∀ k j i : Int, t - k - j - i = t - (k + j + i) := fun k j i => by omega
  simp only [op_on, op_off, e]
theorem swing_on {m n l : Nat} (h1 : n ≤ m) (h2 : n ≤ l) (F : Fl) : Eq' (op (true, l) (op (false, n) (op (true, m) F))) (sh n (op (true, m + l - n) F)) := fun t => by
  rw [three_on]
  show _ ↔ op (true, m + l - n) F (t - n)
  rw [op_on]
  constructor
  · intro q x a b
    have hx : x ≤ (m : Int) + l - n := by omega
    -- the place n + x lies in a window that starts no later
    obtain ⟨k, hk1, hk2, hk3, hk4⟩ : ∃ k : Int, 0 ≤ k ∧ k ≤ l ∧ k ≤ x ∧ x + n ≤ k + m := by
      by_cases z : x + n ≤ m
      · exact ⟨0, by omega, by omega, by omega, by omega⟩
      · exact ⟨x + n - m, by omega, by omega, by omega, by omega⟩
    obtain ⟨j, j1, j2, j3⟩ := q k hk1 hk2
    have := j3 (x + n - (k + j)) (by omega) (by omega)
    have e : t - (k + j + (x + n - (k + j))) = t - n - x := by omega
    rw [e] at this
    exact this
  · intro q k a b
    by_cases z : k ≤ n
    · refine ⟨n - k, by omega, by omega, fun i c d => ?_⟩
      have := q i (by omega) (by omega)
      have e : t - (k + (n - k) + i) = t - n - i := by omega
      rw [e]
      exact this
    · refine ⟨0, by omega, by omega, fun i c d => ?_⟩
      have := q (k - n + i) (by omega) (by omega)
      have e : t - (k + 0 + i) = t - n - (k - n + i) := by omega
      rw [e]
      exact this
theorem tail_on {m n l : Nat} (h1 : n ≤ m) (h2 : l < n) (F : Fl) : Eq' (op (true, l) (op (false, n) (op (true, m) F))) (sh l (op (false, n - l) (op (true, m) F))) := fun t => by
  rw [three_on]
  show _ ↔ op (false, n - l) (op (true, m) F) (t - l)
  rw [op_off]
  constructor
  · intro q
    -- a window that starts at l .. n
    have key : ∀ d : Nat, d ≤ l → (∃ p : Int, l ≤ p ∧ p ≤ n ∧ ∀ i : Int, 0 ≤ i → i ≤ m → F (t - (p + i))) ∨ (∃ p : Int, d ≤ p ∧ p < l ∧ ∀ i : Int, 0 ≤ i → i ≤ m → F (t - (p + i))) := by
      intro d
      induction d with
      | zero =>
        intro _
        obtain ⟨j, j1, j2, j3⟩ := q 0 (by omega) (by omega)
        have j4 : ∀ i : Int, 0 ≤ i → i ≤ m → F (t - (j + i)) := fun i a b => by
          have := j3 i a b
          have e : t - (0 + j + i) = t - (j + i) := by omega
          rw [e] at this
          exact this
        by_cases z : l ≤ j
        · exact .inl ⟨j, z, j2, j4⟩
        · exact .inr ⟨j, by omega, by omega, j4⟩
      | succ d ih =>
        intro hd
        rcases ih (by omega) with z | ⟨p, p1, p2, p3⟩
        · exact .inl z
        · obtain ⟨j, j1, j2, j3⟩ := q (d + 1) (by omega) (by omega)
          have j4 : ∀ i : Int, 0 ≤ i → i ≤ m → F (t - ((d : Int) + 1 + j + i)) := j3
          by_cases z : (l : Int) ≤ d + 1 + j
          · by_cases z2 : (d : Int) + 1 + j ≤ n
            · exact .inl ⟨d + 1 + j, z, z2, j4⟩
            · -- the two windows meet: one that starts at l
              refine .inl ⟨l, by omega, by omega, fun i a b => ?_⟩
              by_cases z3 : (l : Int) + i ≤ p + m
              · have := p3 (l + i - p) (by omega) (by omega)
                have e : t - (p + (l + i - p)) = t - (l + i) := by omega
                rw [e] at this
                exact this
              · have := j4 (l + i - (d + 1 + j)) (by omega) (by omega)
                have e : t - ((d : Int) + 1 + j + (l + i - (d + 1 + j))) = t - (l + i) := by omega
                rw [e] at this
                exact this
          · exact .inr ⟨d + 1 + j, by omega, by omega, j4⟩
    rcases key l (Nat.le_refl l) with ⟨p, p1, p2, p3⟩ | ⟨p, p1, p2, _⟩
    · refine ⟨p - l, by omega, by omega, ?_⟩
      rw [op_on]
      intro i a b
      have := p3 i a b
      have e : t - l - (p - l) - i = t - (p + i) := by omega
      rw [e]
      exact this
    · omega
  · rintro ⟨x, a, b, q⟩ k c d
    rw [op_on] at q
    refine ⟨l + x - k, by omega, by omega, fun i e f => ?_⟩
    have := q i e f
    have e2 : t - (k + (l + x - k) + i) = t - l - x - i := by omega
    rw [e2]
    exact this
/-- the same turned about -/
def ng (F : Fl) : Fl := fun t => ¬ F t
theorem op_ng (k : Bool) (n : Nat) (F : Fl) : Eq' (op (!k, n) (ng F)) (ng (op (k, n) F)) := fun t => by
  cases k with
  | true =>
    show op (false, n) (ng F) t ↔ ¬ op (true, n) F t
    rw [op_on, op_off]
    unfold ng
    constructor
    · rintro ⟨i, a, b, q⟩ z
      exact q (z i a b)
    · intro q
      apply Classical.byContradiction
      intro z
      exact q fun i a b => Classical.byContradiction fun y => z ⟨i, a, b, y⟩
  | false =>
    show op (true, n) (ng F) t ↔ ¬ op (false, n) F t
    rw [op_on, op_off]
    unfold ng
    exact ⟨fun q ⟨i, a, b, z⟩ => q i a b z, fun q i a b z => q ⟨i, a, b, z⟩⟩
theorem ng_cong {F G : Fl} (h : Eq' F G) : Eq' (ng F) (ng G) := fun t => not_congr (h t)
theorem ng_ng (F : Fl) : Eq' (ng (ng F)) F := fun t => Classical.not_not
theorem eq_symm {F G : Fl} (a : Eq' F G) : Eq' G F := fun t => (a t).symm
theorem three_ng (k : Bool) (m n l : Nat) (F : Fl) : Eq' (op (!k, l) (op (k, n) (op (!k, m) F))) (ng (op (k, l) (op (!k, n) (op (k, m) (ng F))))) := by
  have s1 : Eq' (op (!k, m) F) (ng (op (k, m) (ng F))) := by
    have a := op_ng k m (ng F)
    exact eq_trans (op_cong (eq_symm (ng_ng F)) _) a
  have s2 : Eq' (op (k, n) (op (!k, m) F)) (ng (op (!k, n) (op (k, m) (ng F)))) := by
    have a := op_ng (!k) n (op (k, m) (ng F))
    rw [Bool.not_not] at a
    exact eq_trans (op_cong s1 _) a
  exact eq_trans (op_cong s2 _) (op_ng k l _)
theorem swing_op {k : Bool} {m n l : Nat} (h1 : n ≤ m) (h2 : n ≤ l) (F : Fl) : Eq' (op (k, l) (op (!k, n) (op (k, m) F))) (sh n (op (k, m + l - n) F)) := by
  cases k with
  | true => exact swing_on h1 h2 F
  | false =>
    have a := three_ng true m n l F
    have b := swing_on h1 h2 (ng F)
    refine eq_trans a (eq_trans (ng_cong b) ?_)
    intro t
    have c := op_ng true (m + l - n) (ng F) (t - n)
    have d := op_cong (ng_ng F) (false, m + l - n) (t - n)
    exact (c.symm.trans d)
theorem tail_op {k : Bool} {m n l : Nat} (h1 : n ≤ m) (h2 : l < n) (F : Fl) : Eq' (op (k, l) (op (!k, n) (op (k, m) F))) (sh l (op (!k, n - l) (op (k, m) F))) := by
  cases k with
  | true => exact tail_on h1 h2 F
  | false =>
    have a := three_ng true m n l F
    have b := tail_on h1 h2 (ng F)
    refine eq_trans a (eq_trans (ng_cong b) ?_)
    intro t
    have c := op_ng false (n - l) (op (true, m) (ng F)) (t - l)
    have d : Eq' (ng (op (true, m) (ng F))) (op (false, m) F) := eq_trans (eq_symm (op_ng true m (ng F))) (op_cong (ng_ng F) _)
    exact c.symm.trans (op_cong d (true, n - l) (t - l))
theorem app_ops (l : List C) (F : Fl) : Eq' (ops l F) (sh (app (ruleH l) l).2 (ops (app (ruleH l) l).1 F)) := by
  have sh0 : ∀ G : Fl, Eq' G (sh 0 G) := fun G t => by unfold sh; simp
  rcases rule_cases l with e | ⟨c, t, rfl, hc, e⟩ | ⟨c, c1, t, rfl, hc, e⟩ | ⟨c, c1, c2, t, rfl, h1, h2, h3, h4, e⟩ | ⟨c, c1, c2, t, rfl, h1, h2, h3, h4, e⟩
  · rw [e]; cases l <;> exact sh0 _
  · rw [e]
    exact eq_trans (ops_cong (op_zero hc F) t) (sh0 _)
  · rw [e]
    obtain ⟨d, m⟩ := c
    obtain ⟨d1, n⟩ := c1
    replace hc : d1 = d := hc
    subst hc
    exact eq_trans (ops_cong (op_add d1 m n F) t) (sh0 _)
  · rw [e]
    obtain ⟨d, m⟩ := c
    obtain ⟨d1, n⟩ := c1
    obtain ⟨d2, l⟩ := c2
    replace h1 : d1 ≠ d := h1
    replace h2 : d2 = d := h2
    subst h2
    have : d1 = !d2 := by cases d1 <;> cases d2 <;> simp_all
    subst this
    exact eq_trans (ops_cong (swing_op h3 h4 F) t) (ops_sh n t _)
  · rw [e]
    obtain ⟨d, m⟩ := c
    obtain ⟨d1, n⟩ := c1
    obtain ⟨d2, l⟩ := c2
    replace h1 : d1 ≠ d := h1
    replace h2 : d2 = d := h2
    subst h2
    have : d1 = !d2 := by cases d1 <;> cases d2 <;> simp_all
    subst this
    exact eq_trans (ops_cong (tail_op h3 h4 F) t) (ops_sh l t _)
/-- the whole row with its delay -/
def whole (row : List C) (d : Nat) (F : Fl) : Fl := sh d (ops row F)
theorem sh_sh (a b : Nat) (F : Fl) : Eq' (sh a (sh b F)) (sh (a + b) F) := fun t => by
  unfold sh
  have e : t - a - b = t - ((a + b : Nat) : Int) := by omega
  rw [e]
theorem sh_cong {F G : Fl} (h : Eq' F G) (d : Nat) : Eq' (sh d F) (sh d G) := fun t => h _
theorem beh_whole (row : List C) (k d : Nat) (F : Fl) : Eq' (whole (beh row k).1 (d + (beh row k).2) F) (whole row d F) := by
  have e : ops row F = ops (row.drop k) (ops (row.take k) F) := by
    unfold ops
    rw [← List.foldl_append, List.take_append_drop]
  have e2 : ∀ l, ops (row.take k ++ l) F = ops l (ops (row.take k) F) := fun l => by
    unfold ops
    rw [List.foldl_append]
  unfold whole beh
  rw [e2, e]
  have a := app_ops (row.drop k) (ops (row.take k) F)
  exact eq_trans (eq_symm (sh_sh d _ _)) (sh_cong (eq_symm a) d)
/-! ### rows of bits -/
/-- the list is the stream from 0 on -/
def Rep (bs : List Bool) (F : Fl) : Prop := ∀ t : Nat, ∀ b, bs[t]? = some b → (b = true ↔ F t)
theorem rep_uniq {a b : List Bool} {F G : Fl} (h1 : Rep a F) (h2 : Rep b G) (hl : a.length = b.length) (h : Eq' F G) : a = b := by
  apply List.ext_getElem?
  intro t
  cases q : a[t]? with
  | none =>
    have := List.getElem?_eq_none_iff.mp q
    rw [List.getElem?_eq_none (by omega)]
  | some x =>
    have ht := (List.getElem?_eq_some_iff.mp q).1
    have e : b[t]? = some (b[t]'(by omega)) := List.getElem?_eq_getElem (by omega)
    rw [e]
    have a1 := h1 t x q
    have a2 := h2 t _ e
    have hh := h (t : Int)
    congr 1
    generalize b[t]'(by omega) = y at a2
    have : (x = true ↔ y = true) := a1.trans (hh.trans a2.symm)
    cases x <;> cases y <;> simp_all
def thrF (k : Bool) (n : Nat) : Nat → List Bool → List Bool
  | _, [] => []
  | r, b :: bs => (if n < (if b = k then r + 1 else 0) then k else !k) :: thrF k n (if b = k then r + 1 else 0) bs
def thr (c : C) (bs : List Bool) : List Bool := thrF c.1 c.2 (if c.1 then 0 else c.2) bs
theorem thrF_len (k : Bool) (n : Nat) : ∀ (r : Nat) (bs : List Bool), (thrF k n r bs).length = bs.length
  | _, [] => rfl
  | r, b :: bs => by unfold thrF; rw [List.length_cons, thrF_len k n _ bs, List.length_cons]
theorem thrF_rep (k : Bool) (n : Nat) {W : Int → Prop} : ∀ (bs : List Bool) (r s : Nat), (∀ m : Nat, m ≤ n → (m ≤ r ↔ ∀ i : Int, 1 ≤ i → i ≤ m → W (s - i))) → (∀ t b, bs[t]? = some b → (b = k ↔ W ((s + t : Nat) : Int))) →
    ∀ t b, (thrF k n r bs)[t]? = some b → (b = k ↔ ∀ i : Int, 0 ≤ i → i ≤ n → W (((s + t : Nat) : Int) - i))
  | [], _, _, _, _, t, b, h => by simp [thrF] at h
  | x :: bs, r, s, hr, hb, t, b, h => by
    have hx := hb 0 x rfl
    rw [Nat.add_zero] at hx
    -- the new run
    have hr' : ∀ m : Nat, m ≤ n + 1 → (m ≤ (if x = k then r + 1 else 0) ↔ ∀ i : Int, 1 ≤ i → i ≤ m → W (((s + 1 : Nat) : Int) - i)) := by
      intro m hm
      by_cases c : x = k
      · rw [if_pos c]
        have w := hx.mp c
        cases m with
        | zero => exact ⟨fun _ i a b => by omega, fun _ => Nat.zero_le _⟩
        | succ m =>
          have a := hr m (by omega)
          constructor
          · intro q i i1 i2
            by_cases z : i = 1
            · subst z
              have e : ((s + 1 : Nat) : Int) - 1 = s := by omega
              rw [e]; exact w
            · have := a.mp (by omega) (i - 1) (by omega) (by omega)
              have e : (s : Int) - (i - 1) = ((s + 1 : Nat) : Int) - i := by omega
              rw [e] at this
              exact this
          · intro q
            have := a.mpr fun i i1 i2 => by
              have := q (i + 1) (by omega) (by omega)
              have e : ((s + 1 : Nat) : Int) - (i + 1) = s - i := by omega
              rw [e] at this
              exact this
            omega
      · rw [if_neg c]
        have w : ¬ W s := fun z => c (hx.mpr z)
        cases m with
        | zero => exact ⟨fun _ i a b => by omega, fun _ => Nat.le_refl _⟩
        | succ m =>
          constructor
          · intro q; omega
          · intro q
            have := q 1 (by omega) (by omega)
            have e : ((s + 1 : Nat) : Int) - 1 = s := by omega
            rw [e] at this
            exact absurd this w
    cases t with
    | zero =>
      unfold thrF at h
      simp only [List.getElem?_cons_zero, Option.some.injEq] at h
      have q := hr' (n + 1) (Nat.le_refl _)
      rw [Nat.add_zero]
      have conv : (∀ i : Int, 1 ≤ i → i ≤ ((n + 1 : Nat) : Int) → W (((s + 1 : Nat) : Int) - i)) ↔ ∀ i : Int, 0 ≤ i → i ≤ n → W ((s : Int) - i) := by
        constructor
        · intro z i i1 i2
          have := z (i + 1) (by omega) (by omega)
          have e : ((s + 1 : Nat) : Int) - (i + 1) = s - i := by omega
          rw [e] at this
          exact this
        · intro z i i1 i2
          have := z (i - 1) (by omega) (by omega)
          have e : (s : Int) - (i - 1) = ((s + 1 : Nat) : Int) - i := by omega
          rw [e] at this
          exact this
      rw [conv] at q
      rw [← q, ← h]
      by_cases c : n < (if x = k then r + 1 else 0)
      · rw [if_pos c]; exact ⟨fun _ => c, fun _ => rfl⟩
      · rw [if_neg c]
        exact ⟨fun z => absurd z (by cases k <;> simp), fun z => absurd z c⟩
    | succ t =>
      unfold thrF at h
      rw [List.getElem?_cons_succ] at h
      have ih := thrF_rep k n bs (if x = k then r + 1 else 0) (s + 1) (fun m hm => hr' m (by omega)) (fun t b hb' => by
        have := hb (t + 1) b (by rw [List.getElem?_cons_succ]; exact hb')
        have e : s + 1 + t = s + (t + 1) := by omega
        rw [e]
        exact this) t b h
      have e : s + 1 + t = s + (t + 1) := by omega
      rw [e] at ih
      exact ih
def Neg (F : Fl) : Prop := ∀ t : Int, t < 0 → ¬ F t
theorem op_neg {F : Fl} (h : Neg F) (c : C) : Neg (op c F) := fun t ht => by
  obtain ⟨k, n⟩ := c
  cases k with
  | true =>
    rw [op_on]
    intro q
    have := q 0 (by omega) (by omega)
    exact h _ (by omega) this
  | false =>
    rw [op_off]
    rintro ⟨i, a, b, q⟩
    exact h _ (by omega) q
theorem thr_rep {bs : List Bool} {F : Fl} (c : C) (h : Rep bs F) (hn : Neg F) : Rep (thr c bs) (op c F) := fun t b hb => by
  obtain ⟨k, n⟩ := c
  unfold thr at hb
  cases k with
  | true =>
    simp only [if_true] at hb
    have q := thrF_rep true n (W := F) bs 0 0 (fun m hm => ?_) (fun t b hb => by rw [Nat.zero_add]; exact h t b hb) t b hb
    · rw [Nat.zero_add] at q
      rw [op_on]
      exact q
    · cases m with
      | zero => exact ⟨fun _ i a b => by omega, fun _ => Nat.le_refl _⟩
      | succ m =>
        constructor
        · intro z; omega
        · intro z
          have := z 1 (by omega) (by omega)
          exact absurd this (hn _ (by simp))
  | false =>
    simp only [Bool.false_eq_true, if_false] at hb
    have q := thrF_rep false n (W := ng F) bs n 0 (fun m hm => ⟨fun _ i a b => hn _ (by simp; omega), fun _ => hm⟩) (fun t b hb => by
      rw [Nat.zero_add]
      have := h t b hb
      unfold ng
      cases b <;> simp_all) t b hb
    rw [Nat.zero_add] at q
    rw [op_off]
    unfold ng at q
    constructor
    · intro z
      subst z
      apply Classical.byContradiction
      intro y
      have := q.mpr fun i a b w => y ⟨i, a, b, w⟩
      cases this
    · rintro ⟨i, a, b', w⟩
      cases b with
      | true => rfl
      | false => exact absurd w (q.mp rfl i a b')
def thrs (row : List C) (bs : List Bool) : List Bool := row.foldl (fun l c => thr c l) bs
theorem thr_len (c : C) (bs : List Bool) : (thr c bs).length = bs.length := thrF_len _ _ _ _
theorem thrs_rep : ∀ (row : List C) {bs : List Bool} {F : Fl}, Rep bs F → Neg F → Rep (thrs row bs) (ops row F) ∧ Neg (ops row F) ∧ (thrs row bs).length = bs.length
  | [], _, _, h, hn => ⟨h, hn, rfl⟩
  | c :: l, bs, F, h, hn => by
    obtain ⟨a, b, d⟩ := thrs_rep l (thr_rep c h hn) (op_neg hn c)
    exact ⟨a, b, by show (thrs l (thr c bs)).length = _; rw [d, thr_len]⟩
/-- delayed by d, no longer than before -/
def dly (d : Nat) (bs : List Bool) : List Bool := (List.replicate d false ++ bs).take bs.length
theorem dly_rep {bs : List Bool} {F : Fl} (d : Nat) (h : Rep bs F) (hn : Neg F) : Rep (dly d bs) (sh d F) ∧ (dly d bs).length = bs.length := by
  refine ⟨fun t b hb => ?_, by unfold dly; simp⟩
  unfold dly at hb
  have ht : t < bs.length := by
    have := (List.getElem?_eq_some_iff.mp hb).1
    simp at this
    omega
  rw [List.getElem?_take, if_pos ht] at hb
  show b = true ↔ F ((t : Int) - d)
  by_cases c : t < d
  · rw [List.getElem?_append_left (by simpa using c), List.getElem?_replicate, if_pos c] at hb
    cases hb
    exact ⟨fun z => (nomatch z), fun z => absurd z (hn _ (by omega))⟩
  · rw [List.getElem?_append_right (by simp; omega), List.length_replicate] at hb
    have := h _ b hb
    have e : ((t - d : Nat) : Int) = (t : Int) - d := by omega
    rw [e] at this
    exact this
def outS (row : List C) (d : Nat) (bs : List Bool) : List Bool := dly d (thrs row bs)
def stream (bs : List Bool) : Fl := fun t => 0 ≤ t ∧ bs[t.toNat]? = some true
theorem stream_rep (bs : List Bool) : Rep bs (stream bs) ∧ Neg (stream bs) := ⟨fun t b hb => by
  unfold stream
  rw [Int.toNat_natCast, hb]
  simp, fun t ht h => by have := h.1; omega⟩
theorem outS_len (row : List C) (d : Nat) (bs : List Bool) : (outS row d bs).length = bs.length := by
  obtain ⟨a, b⟩ := stream_rep bs
  obtain ⟨c, e, f⟩ := thrs_rep row a b
  rw [← f]
  exact (dly_rep d c e).2
/-- a rule changes nothing of what comes out -/
theorem outS_beh (row : List C) (k d : Nat) (bs : List Bool) : outS (beh row k).1 (d + (beh row k).2) bs = outS row d bs := by
  obtain ⟨a, b⟩ := stream_rep bs
  obtain ⟨c1, e1, f1⟩ := thrs_rep row a b
  obtain ⟨c2, e2, f2⟩ := thrs_rep (beh row k).1 a b
  exact rep_uniq (dly_rep _ c2 e2).1 (dly_rep _ c1 e1).1 (by rw [outS_len, outS_len]) (beh_whole row k d (stream bs))
end Rw

set_option Elab.async false
set_option linter.all false
set_option maxRecDepth 100000
set_option maxHeartbeats 4000000
/-! the mirrors of the text's defs -/
namespace Lw
open PySem L2 Gv
def sub_BadNumber (nm : Str) : Option Bool := if nm = "BadNumber" then some true else if nm = "BadRow" then some false else none
def sub_BadRow (nm : Str) : Option Bool := if nm = "BadNumber" then some false else if nm = "BadRow" then some true else none
def m_is_whole (a : PyData) : O Bool Empty Empty :=
.rt ((isA "int" a) && (!(isA "bool" a)))
def f_is_whole (a : PyData) : R Bool := fin (m_is_whole a) fun z => z.elim
def m_whole_in (a : (PyData × Int × Int)) : O Bool Empty Empty :=
O.bind (bindR (f_is_whole a.1) fun r2 =>
if r2 then (bindR (intD a.1) fun t3 =>
.nx (decide (a.2.1 ≤ t3) && decide (t3 ≤ a.2.2))) else (.nx false)) fun (j1 : Bool) =>
.rt j1
def f_whole_in (a : (PyData × Int × Int)) : R Bool := fin (m_whole_in a) fun z => z.elim
def m_is_bit (a : PyData) : O Bool Empty Empty :=
bindR (f_whole_in (a, (0 : Int), (1 : Int))) fun r1 =>
.rt r1
def f_is_bit (a : PyData) : R Bool := fin (m_is_bit a) fun z => z.elim
def m_check_row (a : (PyData × Int)) : O (List Int) Empty Empty :=
O.bind (if (!(isA "list" a.1 || isA "tuple" a.1)) then (.nx true) else (bindR (lenD a.1) fun t2 =>
.nx (!decide (t2 = a.2)))) fun (j1 : Bool) =>
if j1 then (.er ⟨"BadRow", [("place", (PyData.int (-(1 : Int))))]⟩) else (bindR (itemsD a.1) fun l3 =>
(forO (fun (s4 : Unit) (b5 : (Int × PyData)) =>
bindR (f_is_bit b5.2) fun r6 =>
if (!r6) then (.er ⟨"BadRow", [("place", (PyData.int b5.1))]⟩) else (.nx ())) (enumL l3) ()).bind fun (s4 : Unit) =>
bindR (itemsD a.1) fun t7 =>
bindR (intsR t7) fun t8 =>
.rt t8)
def f_check_row (a : (PyData × Int)) : R (List Int) := fin (m_check_row a) fun z => z.elim
def m_checked_bits (a : PyData) : O (List Int) Empty Empty :=
O.bind (if (isA "list" a || isA "tuple" a) then (bindR (lenD a) fun t2 =>
.nx t2) else (.nx (0 : Int))) fun (j1 : Int) =>
bindR (f_check_row (a, j1)) fun r3 =>
.rt r3
def f_checked_bits (a : PyData) : R (List Int) := fin (m_checked_bits a) fun z => z.elim
def m_delayed (a : (PyData × PyData)) : O (List Int) Empty Empty :=
bindR (f_checked_bits a.1) fun r1 =>
O.bind (bindR (f_is_whole a.2) fun r3 =>
if (!r3) then (.nx true) else (bindR (intD a.2) fun t4 =>
.nx (decide (t4 < (0 : Int))))) fun (j2 : Bool) =>
if j2 then (.er ⟨"BadNumber", [("word", (PyData.str ("d" : Str)))]⟩) else (bindR (intD a.2) fun t5 =>
lt (minI t5 ((r1).length : Int)) fun (zeros_6 : Int) =>
bindR (repA ([(0 : Int)]) zeros_6) fun t7 =>
bindR (catR t7 (cutL r1 none (some (((r1).length : Int) - zeros_6)))) fun t8 =>
.rt t8)
def f_delayed (a : (PyData × PyData)) : R (List Int) := fin (m_delayed a) fun z => z.elim
def m_checked_clocks (a : (PyData × Str)) : O (List (Str × Int)) Empty Empty :=
if (!(isA "list" a.1 || isA "tuple" a.1)) then (.er ⟨"BadNumber", [("word", (PyData.str a.2))]⟩) else (lt ([]) fun (found_1 : (List (Str × Int))) =>
bindR (itemsD a.1) fun l2 =>
(forO (fun (s3 : (List (Str × Int))) (b4 : PyData) =>
O.bind (if (!(isA "list" b4 || isA "tuple" b4)) then (.nx true) else (bindR (lenD b4) fun t6 =>
.nx (!decide (t6 = (2 : Int))))) fun (j5 : Bool) =>
if j5 then (.er ⟨"BadNumber", [("word", (PyData.str a.2))]⟩) else (bindR (unp2 b4) fun q7 =>
O.bind (if (!(isA "str" q7.1)) then (.nx true) else (bindR (strD q7.1) fun t9 =>
if (!decide (t9 ∈ [("on" : Str), ("off" : Str)])) then (.nx true) else (bindR (f_is_whole q7.2) fun r10 =>
if (!r10) then (.nx true) else (bindR (intD q7.2) fun t11 =>
.nx (decide (t11 < (0 : Int))))))) fun (j8 : Bool) =>
if j8 then (.er ⟨"BadNumber", [("word", (PyData.str a.2))]⟩) else (bindR (strD q7.1) fun t12 =>
bindR (intD q7.2) fun t13 =>
bindR (appR s3 (t12, t13)) fun ys14 =>
.nx ys14))) l2 found_1).bind fun (s3 : (List (Str × Int))) =>
.rt s3)
def f_checked_clocks (a : (PyData × Str)) : R (List (Str × Int)) := fin (m_checked_clocks a) fun z => z.elim
def m_check_timer_row (a : PyData) : O Unit Empty Unit :=
bindR (f_checked_clocks (a, ("row" : Str))) fun r1 =>
.nx ()
def f_check_timer_row (a : PyData) : R Unit := fin (m_check_timer_row a) .nx
def m_check_delay (a : (PyData × Str)) : O Unit Empty Unit :=
O.bind (bindR (f_is_whole a.1) fun r2 =>
if (!r2) then (.nx true) else (bindR (intD a.1) fun t3 =>
.nx (decide (t3 < (0 : Int))))) fun (j1 : Bool) =>
if j1 then (.er ⟨"BadNumber", [("word", (PyData.str a.2))]⟩) else (.nx ())
def f_check_delay (a : (PyData × Str)) : R Unit := fin (m_check_delay a) .nx
def m_through_clock (a : (Str × Int × (List Int))) : O (List Int) Empty Empty :=
lt (if (decide (a.1 = ("on" : Str))) then (1 : Int) else (0 : Int)) fun (wanted_1 : Int) =>
lt (if (decide (a.1 = ("on" : Str))) then (0 : Int) else a.2.1) fun (run_2 : Int) =>
lt ([]) fun (found_3 : (List Int)) =>
(forO (fun (s4 : (Int × (List Int))) (b5 : Int) =>
lt (if (decide (b5 = wanted_1)) then (s4.1 + (1 : Int)) else (0 : Int)) fun (run_6 : Int) =>
bindR (appR s4.2 (if (decide (a.2.1 < run_6)) then wanted_1 else ((1 : Int) - wanted_1))) fun ys7 =>
.nx (run_6, ys7)) a.2.2 (run_2, found_3)).bind fun (s4 : (Int × (List Int))) =>
.rt s4.2
def f_through_clock (a : (Str × Int × (List Int))) : R (List Int) := fin (m_through_clock a) fun z => z.elim
def m_row_bits (a : (PyData × PyData × PyData)) : O (List Int) Empty Empty :=
bindR (f_checked_clocks (a.1, ("row" : Str))) fun r1 =>
bindR (f_checked_bits a.2.1) fun r2 =>
bindR (f_check_delay (a.2.2, ("delay" : Str))) fun r3 =>
(forO (fun (s4 : (List Int)) (b5 : (Str × Int)) =>
bindR (f_through_clock (b5.1, b5.2, s4)) fun r6 =>
.nx r6) r1 r2).bind fun (s4 : (List Int)) =>
bindR (f_delayed (((dT PyData.int) s4), a.2.2)) fun r7 =>
.rt r7
def f_row_bits (a : (PyData × PyData × PyData)) : R (List Int) := fin (m_row_bits a) fun z => z.elim
def m_rule_here (a : ((List (Str × Int)) × Int)) : O Str Empty Empty :=
lt (cutL a.1 (some a.2) (some (a.2 + (3 : Int)))) fun (here_1 : (List (Str × Int))) =>
bindR (lcR (fun (s3 : Unit) (b2 : (Str × Int)) =>
.nx ((), some b2.1)) here_1 () []) fun r4 =>
bindR (lcR (fun (s6 : Unit) (b5 : (Str × Int)) =>
.nx ((), some b5.2)) here_1 () []) fun r7 =>
bindR (idx r7.2 (0 : Int)) fun t8 =>
if (decide (t8 = (0 : Int))) then (.rt ("nothing" : Str)) else (O.bind (if (decide ((1 : Int) < ((here_1).length : Int))) then (bindR (idx r4.2 (0 : Int)) fun t10 =>
bindR (idx r4.2 (1 : Int)) fun t11 =>
.nx (decide (t10 = t11))) else (.nx false)) fun (j9 : Bool) =>
if j9 then (.rt ("added" : Str)) else (O.bind (if (decide (((here_1).length : Int) < (3 : Int))) then (.nx true) else (bindR (idx r4.2 (1 : Int)) fun t13 =>
bindR (idx r4.2 (2 : Int)) fun t14 =>
if (decide (t13 = t14)) then (.nx true) else (bindR (idx r7.2 (1 : Int)) fun t15 =>
bindR (idx r7.2 (0 : Int)) fun t16 =>
.nx (decide (t16 < t15))))) fun (j12 : Bool) =>
if j12 then (.rt ("" : Str)) else (O.bind (bindR (idx r7.2 (1 : Int)) fun t18 =>
bindR (idx r7.2 (2 : Int)) fun t19 =>
if (decide (t18 ≤ t19)) then (.nx ("swing" : Str)) else (.nx ("tail" : Str))) fun (j17 : Str) =>
.rt j17)))
def f_rule_here (a : ((List (Str × Int)) × Int)) : R Str := fin (m_rule_here a) fun z => z.elim
def m_usable_rules (a : (List (Str × Int))) : O (List (Int × Str)) Empty Empty :=
bindR (rngR 0 ((a).length : Int)) fun l1 =>
bindR (lcR (fun (s3 : Unit) (b2 : Int) =>
bindR (f_rule_here (a, b2)) fun r5 =>
.nx ((), some (b2, r5))) l1 () []) fun r4 =>
bindR (lcR (fun (s7 : Unit) (b6 : (Int × Str)) =>
if (!decide (b6.2 = ("" : Str))) then (.nx ((), some b6)) else (.nx ((), none))) r4.2 () []) fun r8 =>
.rt r8.2
def f_usable_rules (a : (List (Str × Int))) : R (List (Int × Str)) := fin (m_usable_rules a) fun z => z.elim
def m_first_rule (a : (List (Str × Int))) : O (Option (Int × Str)) Empty Empty :=
bindR (f_usable_rules a) fun r1 =>
bindR (lcR (fun (s3 : Unit) (b2 : (Int × Str)) =>
if (decide (b2.2 ∈ [(("nothing" : Str), ("added" : Str)).1, (("nothing" : Str), ("added" : Str)).2])) then (.nx ((), some b2)) else (.nx ((), none))) r1 () []) fun r4 =>
if (decide ((0 : Int) < ((r4.2).length : Int))) then (bindR (idx r4.2 (0 : Int)) fun t5 =>
.rt (some t5)) else (O.bind (if (decide ((0 : Int) < ((r1).length : Int))) then (bindR (idx r1 (0 : Int)) fun t7 =>
.nx (some t7)) else (.nx none)) fun (j6 : (Option (Int × Str))) =>
.rt j6)
def f_first_rule (a : (List (Str × Int))) : R (Option (Int × Str)) := fin (m_first_rule a) fun z => z.elim
def m_ruled (a : ((List (Str × Int)) × Int × Int × Str)) : O ((List (Str × Int)) × Int) Empty Empty :=
lt (cutL a.1 none (some a.2.2.1)) fun (head_1 : (List (Str × Int))) =>
bindR (idx a.1 a.2.2.1) fun t2 =>
if (decide (a.2.2.2 = ("nothing" : Str))) then (bindR (catR head_1 (cutL a.1 (some (a.2.2.1 + (1 : Int))) none)) fun t3 =>
.rt (t3, a.2.1)) else (bindR (idx a.1 (a.2.2.1 + (1 : Int))) fun t4 =>
if (decide (a.2.2.2 = ("added" : Str))) then (bindR (catR head_1 ([(t2.1, (t2.2 + t4.2))])) fun t5 =>
bindR (catR t5 (cutL a.1 (some (a.2.2.1 + (2 : Int))) none)) fun t6 =>
.rt (t6, a.2.1)) else (bindR (idx a.1 (a.2.2.1 + (2 : Int))) fun t7 =>
if (decide (a.2.2.2 = ("swing" : Str))) then (bindR (catR head_1 ([(t2.1, ((t2.2 + t7.2) - t4.2))])) fun t8 =>
bindR (catR t8 (cutL a.1 (some (a.2.2.1 + (3 : Int))) none)) fun t9 =>
.rt (t9, (a.2.1 + t4.2))) else (bindR (catR head_1 ([((t2.1, t2.2), (t4.1, (t4.2 - t7.2))).1, ((t2.1, t2.2), (t4.1, (t4.2 - t7.2))).2])) fun t10 =>
bindR (catR t10 (cutL a.1 (some (a.2.2.1 + (3 : Int))) none)) fun t11 =>
.rt (t11, (a.2.1 + t7.2)))))
def f_ruled (a : ((List (Str × Int)) × Int × Int × Str)) : R ((List (Str × Int)) × Int) := fin (m_ruled a) fun z => z.elim
def m_normal_clocks (a : ((List (Str × Int)) × Int)) : O ((List (Str × Int)) × Int) Empty Empty :=
bindR (f_first_rule a.1) fun r1 =>
(whileO (fun (s2 : ((List (Str × Int)) × Int × (Option (Int × Str)))) =>
.nx (s2, (!(s2.2.2).isNone))) (fun (s2 : ((List (Str × Int)) × Int × (Option (Int × Str)))) =>
bindR (getR s2.2.2) fun t3 =>
bindR (getR s2.2.2) fun t4 =>
bindR (f_ruled (s2.1, s2.2.1, t3.1, t4.2)) fun r5 =>
bindR (f_first_rule r5.1) fun r6 =>
.nx (r5.1, r5.2, r6)) 100000 (a.1, a.2, r1)).bind fun (s2 : ((List (Str × Int)) × Int × (Option (Int × Str)))) =>
.rt (s2.1, s2.2.1)
def f_normal_clocks (a : ((List (Str × Int)) × Int)) : R ((List (Str × Int)) × Int) := fin (m_normal_clocks a) fun z => z.elim
def m_normal (a : (PyData × PyData)) : O ((List (Str × Int)) × Int) Empty Empty :=
bindR (f_checked_clocks (a.1, ("row" : Str))) fun r1 =>
bindR (f_check_delay (a.2, ("delay" : Str))) fun r2 =>
bindR (intD a.2) fun t3 =>
bindR (f_normal_clocks (r1, t3)) fun r4 =>
.rt r4
def f_normal (a : (PyData × PyData)) : R ((List (Str × Int)) × Int) := fin (m_normal a) fun z => z.elim
def m_one_rule (a : (PyData × PyData)) : O (Option ((List (Str × Int)) × Int × Str)) Empty Empty :=
bindR (f_checked_clocks (a.1, ("row" : Str))) fun r1 =>
bindR (f_check_delay (a.2, ("delay" : Str))) fun r2 =>
bindR (f_first_rule r1) fun r3 =>
O.bind (if (r3).isNone then (.nx none) else (bindR (intD a.2) fun t5 =>
bindR (getR r3) fun t6 =>
bindR (getR r3) fun t7 =>
bindR (f_ruled (r1, t5, t6.1, t7.2)) fun r8 =>
bindR (getR r3) fun t9 =>
.nx (some (r8.1, r8.2, t9.2)))) fun (j4 : (Option ((List (Str × Int)) × Int × Str))) =>
.rt j4
def f_one_rule (a : (PyData × PyData)) : R (Option ((List (Str × Int)) × Int × Str)) := fin (m_one_rule a) fun z => z.elim
def m_rules_at (a : PyData) : O (List (Int × Str)) Empty Empty :=
bindR (f_checked_clocks (a, ("row" : Str))) fun r1 =>
bindR (f_usable_rules r1) fun r2 =>
.rt r2
def f_rules_at (a : PyData) : R (List (Int × Str)) := fin (m_rules_at a) fun z => z.elim
def m_use (a : (PyData × PyData × PyData)) : O ((List (Str × Int)) × Int) Empty Empty :=
bindR (f_checked_clocks (a.1, ("row" : Str))) fun r1 =>
bindR (f_check_delay (a.2.1, ("delay" : Str))) fun r2 =>
bindR (f_usable_rules r1) fun r3 =>
(forO (fun (s4 : Unit) (b5 : (Int × Str)) =>
O.bind (bindR (f_is_whole a.2.2) fun r7 =>
if r7 then (bindR (eqR (PyData.int b5.1) a.2.2) fun t8 =>
.nx t8) else (.nx false)) fun (j6 : Bool) =>
if j6 then (bindR (intD a.2.1) fun t9 =>
bindR (f_ruled (r1, t9, b5.1, b5.2)) fun r10 =>
.rt r10) else (.nx ())) r3 ()).bind fun (s4 : Unit) =>
.er ⟨"BadNumber", [("word", (PyData.str ("place" : Str)))]⟩
def f_use (a : (PyData × PyData × PyData)) : R ((List (Str × Int)) × Int) := fin (m_use a) fun z => z.elim
def m_law_numbers (a : (List Int)) : O (List Int) Empty Empty :=
lt ([]) fun (numbers_1 : (List Int)) =>
bindR (rngR 0 (minI ((a).length : Int) (63 : Int))) fun l2 =>
(forO (fun (s3 : (List Int)) (b4 : Int) =>
bindR (idx a b4) fun t5 =>
lt (0 : Int) fun (turned_6 : Int) =>
O.bind (if (decide (t5 < (0 : Int))) then (lt ((0 : Int) - t5) fun (cell_8 : Int) =>
lt (1 : Int) fun (turned_9 : Int) =>
.nx (cell_8, turned_9)) else (.nx (t5, turned_6))) fun (s7 : (Int × Int)) =>
if (decide (((10 : Int) ^ ((18 : Int)).toNat) ≤ s7.1)) then (bindR (rngR 0 (45 : Int)) fun l10 =>
(forO (fun (s11 : ((List Int) × Int)) (b12 : Int) =>
if (decide ((0 : Int) < s11.2)) then (bindR (appR s11.1 (s11.2 % (60 : Int))) fun ys13 =>
lt (s11.2 / (60 : Int)) fun (cell_14 : Int) =>
.nx (ys13, cell_14)) else (.nx (s11.1, s11.2))) l10 (s3, s7.1)).bind fun (s11 : ((List Int) × Int)) =>
.nx s11.1) else (lt (((((s7.1 * (16807 : Int)) + (b4 * (7919 : Int))) + (s7.2 * (104729 : Int))) + (11 : Int)) % (2147483629 : Int)) fun (seed_15 : Int) =>
bindR (rngR 0 (7 : Int)) fun l16 =>
(forO (fun (s17 : ((List Int) × Int)) (b18 : Int) =>
bindR (mulR (s17.2 / (1000 : Int)) b18) fun t19 =>
lt ((((s17.2 * (39373 : Int)) + t19) + (7919 : Int)) % (2147483629 : Int)) fun (seed_20 : Int) =>
bindR (appR s17.1 ((seed_20 / (7 : Int)) % (55440 : Int))) fun ys21 =>
.nx (ys21, seed_20)) l16 (s3, seed_15)).bind fun (s17 : ((List Int) × Int)) =>
.nx s17.1)) l2 numbers_1).bind fun (s3 : (List Int)) =>
lt (List.reverse s3) fun (ys22 : (List Int)) =>
.rt ys22
def f_law_numbers (a : (List Int)) : R (List Int) := fin (m_law_numbers a) fun z => z.elim
def m_law_draw (a : ((List Int) × Int)) : O (Int × (List Int)) Empty Empty :=
if (decide (((a.1).length : Int) = (0 : Int))) then (.rt ((0 : Int), a.1)) else (bindR (popR a.1) fun t1 =>
bindR (modR t1.1 a.2) fun t2 =>
.rt (t2, t1.2))
def f_law_draw (a : ((List Int) × Int)) : R (Int × (List Int)) := fin (m_law_draw a) fun z => z.elim
def m_law_int (a : PyData) : O Bool Empty Empty :=
.rt ((isA "int" a) && (!(isA "bool" a)))
def f_law_int (a : PyData) : R Bool := fin (m_law_int a) fun z => z.elim
def m_law_bits_ok (a : ((List Int) × Int)) : O Bool Empty Empty :=
if ((!(isA "tuple" ((dT PyData.int) a.1))) || (!decide (((a.1).length : Int) = a.2))) then (.rt false) else ((forO (fun (s1 : Unit) (b2 : Int) =>
O.bind (bindR (f_law_int (PyData.int b2)) fun r4 =>
if (!r4) then (.nx true) else (if (decide (b2 < (0 : Int))) then (.nx true) else (.nx (decide ((1 : Int) < b2))))) fun (j3 : Bool) =>
if j3 then (.rt false) else (.nx ())) a.1 ()).bind fun (s1 : Unit) =>
.rt true)
def f_law_bits_ok (a : ((List Int) × Int)) : R Bool := fin (m_law_bits_ok a) fun z => z.elim
def m_law_clocks (a : (List Int)) : O ((List (Str × Int)) × (List Int)) Empty Empty :=
bindR (f_law_draw (a, (12 : Int))) fun r1 =>
bindR (idx ([(1 : Int), (2 : Int), (3 : Int), (3 : Int), (4 : Int), (5 : Int), (6 : Int), (7 : Int), (8 : Int), (3 : Int), (4 : Int), (0 : Int)]) r1.1) fun t2 =>
bindR (f_law_draw (r1.2, (4 : Int))) fun r3 =>
bindR (idx ([(5 : Int), (13 : Int), (61 : Int), (4 : Int)]) r3.1) fun t4 =>
bindR (f_law_draw (r3.2, (3 : Int))) fun r5 =>
lt ([("on" : Str), ("off" : Str)]) fun (kinds_6 : (List Str)) =>
bindR (f_law_draw (r5.2, (2 : Int))) fun r7 =>
lt ([]) fun (row_8 : (List (Str × Int))) =>
bindR (rngR 0 t2) fun l9 =>
(forO (fun (s10 : ((List Int) × Int × (List (Str × Int)))) (b11 : Int) =>
O.bind (if (decide (r5.1 = (0 : Int))) then (bindR (f_law_draw (s10.1, (2 : Int))) fun r13 =>
.nx (r13.2, r13.1)) else (.nx (s10.1, s10.2.1))) fun (s12 : ((List Int) × Int)) =>
bindR (idx kinds_6 s12.2) fun t14 =>
bindR (f_law_draw (s12.1, t4)) fun r15 =>
bindR (appR s10.2.2 (t14, r15.1)) fun ys16 =>
lt ((1 : Int) - s12.2) fun (side_17 : Int) =>
.nx (r15.2, side_17, ys16)) l9 (r7.2, r7.1, row_8)).bind fun (s10 : ((List Int) × Int × (List (Str × Int)))) =>
.rt (s10.2.2, s10.1)
def f_law_clocks (a : (List Int)) : R ((List (Str × Int)) × (List Int)) := fin (m_law_clocks a) fun z => z.elim
def m_law_runs (a : (List Int)) : O ((List Int) × (List Int)) Empty Empty :=
lt ([]) fun (bits_1 : (List Int)) =>
bindR (f_law_draw (a, (2 : Int))) fun r2 =>
bindR (f_law_draw (r2.2, (3 : Int))) fun r3 =>
bindR (idx ([(4 : Int), (14 : Int), (40 : Int)]) r3.1) fun t4 =>
bindR (f_law_draw (r3.2, (12 : Int))) fun r5 =>
bindR (rngR 0 ((2 : Int) + r5.1)) fun l6 =>
(forO (fun (s7 : ((List Int) × (List Int) × Int)) (b8 : Int) =>
bindR (f_law_draw (s7.1, t4)) fun r9 =>
bindR (repL ([s7.2.2]) ((1 : Int) + r9.1)) fun t10 =>
bindR (catR s7.2.1 t10) fun t11 =>
lt ((1 : Int) - s7.2.2) fun (bit_12 : Int) =>
.nx (r9.2, t11, bit_12)) l6 (r5.2, bits_1, r2.1)).bind fun (s7 : ((List Int) × (List Int) × Int)) =>
.rt ((cutL s7.2.1 none (some (90 : Int))), s7.1)
def f_law_runs (a : (List Int)) : R ((List Int) × (List Int)) := fin (m_law_runs a) fun z => z.elim
def m_law_out (a : ((List (Str × Int)) × Int × (List Int))) : O (List Int) Empty Empty :=
(forO (fun (s1 : (List Int)) (b2 : (Str × Int)) =>
lt (if (decide (b2.1 = ("on" : Str))) then (1 : Int) else 0) fun (wanted_3 : Int) =>
lt (0 : Int) fun (run_4 : Int) =>
O.bind (if (decide (b2.1 = ("off" : Str))) then (.nx b2.2) else (.nx run_4)) fun (s5 : Int) =>
lt ([]) fun (worked_6 : (List Int)) =>
(forO (fun (s7 : (Int × (List Int))) (b8 : Int) =>
O.bind (if (decide (b8 = wanted_3)) then (lt (s7.1 + (1 : Int)) fun (run_10 : Int) =>
.nx run_10) else (lt (0 : Int) fun (run_11 : Int) =>
.nx run_11)) fun (s9 : Int) =>
if (decide (b2.2 < s9)) then (bindR (appR s7.2 wanted_3) fun ys12 =>
.nx (s9, ys12)) else (bindR (appR s7.2 ((1 : Int) - wanted_3)) fun ys13 =>
.nx (s9, ys13))) s1 (s5, worked_6)).bind fun (s7 : (Int × (List Int))) =>
.nx s7.2) a.1 a.2.2).bind fun (s1 : (List Int)) =>
bindR (repL ([(0 : Int)]) a.2.1) fun t14 =>
bindR (catR t14 s1) fun t15 =>
.rt (cutL t15 none (some ((a.2.2).length : Int)))
def f_law_out (a : ((List (Str × Int)) × Int × (List Int))) : R (List Int) := fin (m_law_out a) fun z => z.elim
def m_law_rule (a : ((List (Str × Int)) × Int)) : O Str Empty Empty :=
bindR (idx a.1 a.2) fun t1 =>
if (decide (t1.2 = (0 : Int))) then (.rt ("nothing" : Str)) else (O.bind (if (decide ((a.2 + (1 : Int)) < ((a.1).length : Int))) then (bindR (idx a.1 (a.2 + (1 : Int))) fun t3 =>
.nx (decide (t3.1 = t1.1))) else (.nx false)) fun (j2 : Bool) =>
if j2 then (.rt ("added" : Str)) else (O.bind (if (decide ((a.2 + (2 : Int)) < ((a.1).length : Int))) then (bindR (idx a.1 (a.2 + (2 : Int))) fun t5 =>
if (decide (t5.1 = t1.1)) then (bindR (idx a.1 (a.2 + (1 : Int))) fun t6 =>
.nx (decide (t6.2 ≤ t1.2))) else (.nx false)) else (.nx false)) fun (j4 : Bool) =>
if j4 then (bindR (idx a.1 (a.2 + (1 : Int))) fun t7 =>
bindR (idx a.1 (a.2 + (2 : Int))) fun t8 =>
if (decide (t7.2 ≤ t8.2)) then (.rt ("swing" : Str)) else (.rt ("tail" : Str))) else (.rt ("" : Str))))
def f_law_rule (a : ((List (Str × Int)) × Int)) : R Str := fin (m_law_rule a) fun z => z.elim
def m_law_rules (a : (List (Str × Int))) : O (List (Int × Str)) Empty Empty :=
bindR (rngR 0 ((a).length : Int)) fun l1 =>
bindR (lcR (fun (s3 : Unit) (b2 : Int) =>
bindR (f_law_rule (a, b2)) fun r5 =>
.nx ((), some (b2, r5))) l1 () []) fun r4 =>
bindR (lcR (fun (s7 : Unit) (b6 : (Int × Str)) =>
if (!decide (b6.2 = ("" : Str))) then (.nx ((), some b6)) else (.nx ((), none))) r4.2 () []) fun r8 =>
.rt r8.2
def f_law_rules (a : (List (Str × Int))) : R (List (Int × Str)) := fin (m_law_rules a) fun z => z.elim
def m_law_behind (a : ((List (Str × Int)) × Int × Int × Str)) : O ((List (Str × Int)) × Int) Empty Empty :=
lt (cutL a.1 none (some a.2.2.1)) fun (ahead_1 : (List (Str × Int))) =>
bindR (idx a.1 a.2.2.1) fun t2 =>
if (decide (a.2.2.2 = ("nothing" : Str))) then (bindR (catR ahead_1 (cutL a.1 (some (a.2.2.1 + (1 : Int))) none)) fun t3 =>
.rt (t3, a.2.1)) else (if (decide (a.2.2.2 = ("added" : Str))) then (bindR (idx a.1 (a.2.2.1 + (1 : Int))) fun t4 =>
bindR (catR ahead_1 ([(t2.1, (t2.2 + t4.2))])) fun t5 =>
bindR (catR t5 (cutL a.1 (some (a.2.2.1 + (2 : Int))) none)) fun t6 =>
.rt (t6, a.2.1)) else (bindR (idx a.1 (a.2.2.1 + (1 : Int))) fun t7 =>
bindR (idx a.1 (a.2.2.1 + (2 : Int))) fun t8 =>
if (decide (a.2.2.2 = ("swing" : Str))) then (bindR (catR ahead_1 ([(t2.1, ((t2.2 + t8.2) - t7.2))])) fun t9 =>
bindR (catR t9 (cutL a.1 (some (a.2.2.1 + (3 : Int))) none)) fun t10 =>
.rt (t10, (a.2.1 + t7.2))) else (bindR (idx a.1 (a.2.2.1 + (1 : Int))) fun t11 =>
bindR (catR ahead_1 ([((t2.1, t2.2), (t11.1, (t7.2 - t8.2))).1, ((t2.1, t2.2), (t11.1, (t7.2 - t8.2))).2])) fun t12 =>
bindR (catR t12 (cutL a.1 (some (a.2.2.1 + (3 : Int))) none)) fun t13 =>
.rt (t13, (a.2.1 + t8.2)))))
def f_law_behind (a : ((List (Str × Int)) × Int × Int × Str)) : R ((List (Str × Int)) × Int) := fin (m_law_behind a) fun z => z.elim
def m_law_sums (a : ((List (Str × Int)) × Int)) : O (List Int) Empty Empty :=
bindR (lcR (fun (s2 : Unit) (b1 : (Str × Int)) =>
if (decide (b1.1 = ("on" : Str))) then (.nx ((), some b1.2)) else (.nx ((), none))) a.1 () []) fun r3 =>
lt ((r3.2).sum) fun (on_4 : Int) =>
bindR (lcR (fun (s6 : Unit) (b5 : (Str × Int)) =>
if (decide (b5.1 = ("off" : Str))) then (.nx ((), some b5.2)) else (.nx ((), none))) a.1 () []) fun r7 =>
lt ((r7.2).sum) fun (off_8 : Int) =>
.rt ([(on_4 + a.2), (off_8 + a.2)])
def f_law_sums (a : ((List (Str × Int)) × Int)) : R (List Int) := fin (m_law_sums a) fun z => z.elim
def m_law_pair_told (a : (((List (Str × Int)) × Int) × ((List (Str × Int)) × Int))) : O Bool Empty Empty :=
O.bind (if (!(isA "tuple" ((dP2 (dT (dP2 PyData.str PyData.int)) PyData.int) a.1))) then (.nx true) else (bindR (eqR ((dP2 (dT (dP2 PyData.str PyData.int)) PyData.int) a.1) ((dP2 (dT (dP2 PyData.str PyData.int)) PyData.int) a.2)) fun t2 =>
if (!t2) then (.nx true) else (if (!(isA "tuple" ((dT (dP2 PyData.str PyData.int)) a.1.1))) then (.nx true) else (bindR (f_law_int (PyData.int a.1.2)) fun r3 =>
.nx (!r3))))) fun (j1 : Bool) =>
if j1 then (.rt false) else ((forO (fun (s4 : Unit) (b5 : (Str × Int)) =>
O.bind (if (!(isA "tuple" ((dP2 PyData.str PyData.int) b5))) then (.nx true) else (bindR (f_law_int (PyData.int b5.2)) fun r7 =>
.nx (!r7))) fun (j6 : Bool) =>
if j6 then (.rt false) else (.nx ())) a.1.1 ()).bind fun (s4 : Unit) =>
.rt true)
def f_law_pair_told (a : (((List (Str × Int)) × Int) × ((List (Str × Int)) × Int))) : R Bool := fin (m_law_pair_told a) fun z => z.elim
def m_law_first (a : ((List (Str × Int)) × Int × (List (Int × Str)))) : O (Option ((List (Str × Int)) × Int × Str)) Empty Empty :=
bindR (lcR (fun (s2 : Unit) (b1 : (Int × Str)) =>
if (decide (b1.2 ∈ [(("nothing" : Str), ("added" : Str)).1, (("nothing" : Str), ("added" : Str)).2])) then (.nx ((), some b1)) else (.nx ((), none))) a.2.2 () []) fun r3 =>
if (decide (((a.2.2).length : Int) = (0 : Int))) then (.rt none) else (bindR (catR r3.2 a.2.2) fun t4 =>
bindR (idx t4 (0 : Int)) fun t5 =>
bindR (f_law_behind (a.1, a.2.1, t5.1, t5.2)) fun r6 =>
.rt (some (r6.1, r6.2, t5.2)))
def f_law_first (a : ((List (Str × Int)) × Int × (List (Int × Str)))) : R (Option ((List (Str × Int)) × Int × Str)) := fin (m_law_first a) fun z => z.elim
def m_law_listed (a : (List (Str × Int))) : O (List (List PyData)) Empty Empty :=
bindR (lcR (fun (s2 : Unit) (b1 : (Str × Int)) =>
.nx ((), some ([PyData.str b1.1, PyData.int b1.2]))) a () []) fun r3 =>
.rt r3.2
def f_law_listed (a : (List (Str × Int))) : R (List (List PyData)) := fin (m_law_listed a) fun z => z.elim
def m_law_turn (a : ((List (Str × Int)) × Int × (List (Int × Str)))) : O Bool Empty Empty :=
bindR (f_law_listed a.1) fun r1 =>
bindR (f_rules_at ((dL (dL id)) r1)) fun r2 =>
O.bind (if (!(isA "tuple" ((dT (dP2 PyData.int PyData.str)) r2))) then (.nx true) else (bindR (eqR ((dL (dP2 PyData.int PyData.str)) r2) ((dL (dP2 PyData.int PyData.str)) a.2.2)) fun t4 =>
.nx (!t4))) fun (j3 : Bool) =>
if j3 then (.rt false) else (bindR (f_one_rule (((dT (dP2 PyData.str PyData.int)) a.1), (PyData.int a.2.1))) fun r5 =>
bindR (f_law_first (a.1, a.2.1, a.2.2)) fun r6 =>
bindR (eqR ((dO (dP3 (dT (dP2 PyData.str PyData.int)) PyData.int PyData.str)) r5) ((dO (dP3 (dT (dP2 PyData.str PyData.int)) PyData.int PyData.str)) r6)) fun t7 =>
if (!t7) then (.rt false) else (bindR (rngR (-(1 : Int)) (((a.1).length : Int) + (1 : Int))) fun l8 =>
(forO (fun (s9 : Unit) (b10 : Int) =>
bindR (lcR (fun (s12 : Unit) (b11 : (Int × Str)) =>
if (decide (b11.1 = b10)) then (.nx ((), some b11.2)) else (.nx ((), none))) a.2.2 () []) fun r13 =>
lt ("" : Str) fun (word_14 : Str) =>
O.bind (tryO (bindR (f_law_listed a.1) fun r17 =>
bindR (f_use (((dL (dL id)) r17), (PyData.int a.2.1), (PyData.int b10))) fun r18 =>
O.bind (if (decide (((r13.2).length : Int) = (0 : Int))) then (.nx true) else (bindR (idx r13.2 (0 : Int)) fun t20 =>
bindR (f_law_behind (a.1, a.2.1, b10, t20)) fun r21 =>
bindR (f_law_pair_told (r18, r21)) fun r22 =>
.nx (!r22))) fun (j19 : Bool) =>
if j19 then (.rt false) else (.nx word_14)) (clO sub_BadNumber (fun x15 => bindR (fldR x15 "BadNumber" "word") fun t23 =>
bindR (strD t23) fun t24 =>
.nx t24) (fun x => .er x))) fun (s16 : Str) =>
bindR (idx ([("place" : Str), ("" : Str)]) ((r13.2).length : Int)) fun t25 =>
if (!decide (s16 = t25)) then (.rt false) else (.nx ())) l8 ()).bind fun (s9 : Unit) =>
.rt true))
def f_law_turn (a : ((List (Str × Int)) × Int × (List (Int × Str)))) : R Bool := fin (m_law_turn a) fun z => z.elim
def m_law_word (a : (Int × PyData × PyData × PyData)) : O PyData Empty Empty :=
O.bind (tryO (if (decide (a.1 = (0 : Int))) then (bindR (f_check_timer_row a.2.1) fun r3 =>
.nx ()) else (if (decide (a.1 = (1 : Int))) then (bindR (f_row_bits (a.2.1, a.2.2.2, a.2.2.1)) fun r4 =>
.nx ()) else (if (decide (a.1 = (2 : Int))) then (bindR (f_normal (a.2.1, a.2.2.1)) fun r5 =>
.nx ()) else (if (decide (a.1 = (3 : Int))) then (bindR (f_one_rule (a.2.1, a.2.2.1)) fun r6 =>
.nx ()) else (if (decide (a.1 = (4 : Int))) then (bindR (f_rules_at a.2.1) fun r7 =>
.nx ()) else (bindR (f_use (a.2.1, a.2.2.1, a.2.2.2)) fun r8 =>
.nx ())))))) (clO sub_BadNumber (fun x1 => bindR (fldR x1 "BadNumber" "word") fun t9 =>
.rt t9) (clO sub_BadRow (fun x1 => bindR (fldR x1 "BadRow" "place") fun t10 =>
.rt t10) (fun x => .er x)))) fun (s2 : Unit) =>
.rt (PyData.str ("let" : Str))
def f_law_word (a : (Int × PyData × PyData × PyData)) : R PyData := fin (m_law_word a) fun z => z.elim
def m_law_refusals (a : (List (Str × Int))) : O Bool Empty Empty :=
lt ([((dP1 (dP2 PyData.str PyData.int)) (("on" : Str), (-(1 : Int)))), ((dP1 (dP2 PyData.str PyData.int)) (("On" : Str), (1 : Int))), ((dP1 (dP2 PyData.str PyData.bool)) (("on" : Str), true)), ((dP1 (dP2 PyData.str PyData.int)) (("pulse" : Str), (1 : Int))), ((dP1 (dP3 PyData.str PyData.int PyData.int)) (("on" : Str), (1 : Int), (1 : Int))), ((dP1 PyData.int) (3 : Int)), ((dP1 (dP2 PyData.str PyData.str)) (("off" : Str), ("1" : Str)))]) fun (bad_1 : (List PyData)) =>
bindR (lcR (fun (s3 : Unit) (b2 : PyData) =>
bindR (tupD b2) fun t5 =>
bindR (catR (List.map (dP2 PyData.str PyData.int) a) t5) fun t6 =>
.nx ((), some ((dT id) t6))) bad_1 () []) fun r4 =>
bindR (catR ([(PyData.str ("on" : Str)), (dN ())]) r4.2) fun t7 =>
bindR (lcR (fun (s9 : Unit) (b8 : PyData) =>
bindR (tupD b8) fun t11 =>
bindR (catR t11 (List.map (dP2 PyData.str PyData.int) a)) fun t12 =>
.nx ((), some ((dT id) t12))) bad_1 () []) fun r10 =>
bindR (catR t7 r10.2) fun t13 =>
(forO (fun (s14 : Unit) (b15 : PyData) =>
bindR (rngR 0 (6 : Int)) fun l16 =>
(forO (fun (s17 : Unit) (b18 : Int) =>
bindR (f_law_word (b18, b15, (PyData.int (-(1 : Int))), (PyData.int (7 : Int)))) fun r19 =>
bindR (eqR r19 (PyData.str ("row" : Str))) fun t20 =>
if (!t20) then (.rt false) else (.nx ())) l16 ()).bind fun (s17 : Unit) =>
.nx ()) t13 ()).bind fun (s14 : Unit) =>
(forO (fun (s21 : Unit) (b22 : Int) =>
O.bind (bindR (f_law_word (b22, ((dT (dP2 PyData.str PyData.int)) a), (PyData.int (-(1 : Int))), (PyData.int (99 : Int)))) fun r24 =>
bindR (eqR r24 (PyData.str ("delay" : Str))) fun t25 =>
if (!t25) then (.nx true) else (bindR (f_law_word (b22, ((dT (dP2 PyData.str PyData.int)) a), (PyData.bool true), (PyData.int (99 : Int)))) fun r26 =>
bindR (eqR r26 (PyData.str ("delay" : Str))) fun t27 =>
.nx (!t27))) fun (j23 : Bool) =>
if j23 then (.rt false) else (.nx ())) ([((2 : Int), (3 : Int), (5 : Int)).1, ((2 : Int), (3 : Int), (5 : Int)).2.1, ((2 : Int), (3 : Int), (5 : Int)).2.2]) ()).bind fun (s21 : Unit) =>
bindR (f_law_word ((1 : Int), ((dT (dP2 PyData.str PyData.int)) a), (PyData.int (-(1 : Int))), ((dP2 PyData.int PyData.int) ((0 : Int), (2 : Int))))) fun r28 =>
bindR (f_law_word ((1 : Int), ((dT (dP2 PyData.str PyData.int)) a), (PyData.int (-(1 : Int))), ((dP2 PyData.int PyData.int) ((0 : Int), (1 : Int))))) fun r29 =>
bindR (f_law_word ((1 : Int), ((dT (dP2 PyData.str PyData.int)) a), (PyData.int (0 : Int)), (PyData.int (5 : Int)))) fun r30 =>
bindR (eqR ((dL id) ([r28, r29, r30])) ((dL id) ([(PyData.int (1 : Int)), (PyData.str ("delay" : Str)), (PyData.int (-(1 : Int)))]))) fun t31 =>
if (!t31) then (.rt false) else (bindR (f_law_word ((5 : Int), ((dT (dP2 PyData.str PyData.int)) a), (PyData.int (0 : Int)), (PyData.int ((a).length : Int)))) fun r32 =>
bindR (f_law_word ((5 : Int), ((dT (dP2 PyData.str PyData.int)) a), (PyData.int (0 : Int)), (PyData.bool true))) fun r33 =>
bindR (f_law_word ((0 : Int), ((dL PyData.int) ([] : List Int)), (PyData.int (0 : Int)), (PyData.int (0 : Int)))) fun r34 =>
lt ([r32, r33, r34]) fun (told_35 : (List PyData)) =>
bindR (eqR ((dL id) told_35) ((dL PyData.str) ([("place" : Str), ("place" : Str), ("let" : Str)]))) fun t36 =>
.rt t36)
def f_law_refusals (a : (List (Str × Int))) : R Bool := fin (m_law_refusals a) fun z => z.elim
def m_law (a : (List Int)) : O Bool Empty Empty :=
bindR (f_law_numbers a) fun r1 =>
bindR (f_law_clocks r1) fun r2 =>
bindR (f_law_draw (r2.2, (21 : Int))) fun r3 =>
bindR (f_law_draw (r3.2, (4 : Int))) fun r4 =>
bindR (idx ([(0 : Int), (0 : Int), (3 : Int), r3.1]) r4.1) fun t5 =>
bindR (f_law_runs r4.2) fun r6 =>
bindR (f_law_out (r2.1, t5, r6.1)) fun r7 =>
bindR (f_law_sums (r2.1, t5)) fun r8 =>
lt ([(r2.1, t5)]) fun (way_9 : (List ((List (Str × Int)) × Int))) =>
bindR (rngR 0 (12 : Int)) fun l10 =>
(forO (fun (s11 : ((List Int) × (List (Str × Int)) × Int × (List ((List (Str × Int)) × Int)))) (b12 : Int) =>
bindR (f_law_rules s11.2.1) fun r13 =>
bindR (f_law_turn (s11.2.1, s11.2.2.1, r13)) fun r14 =>
if (!r14) then (.rt false) else (bindR (f_law_listed s11.2.1) fun r15 =>
bindR (f_row_bits (((dL (dL id)) r15), ((dL PyData.int) r6.1), (PyData.int s11.2.2.1))) fun r16 =>
O.bind (bindR (f_law_bits_ok (r16, ((r6.1).length : Int))) fun r18 =>
if (!r18) then (.nx true) else (if (!decide (r16 = r7)) then (.nx true) else (bindR (f_law_out (s11.2.1, s11.2.2.1, r6.1)) fun r19 =>
.nx (!decide (r19 = r7))))) fun (j17 : Bool) =>
if j17 then (.rt false) else (bindR (f_law_sums (s11.2.1, s11.2.2.1)) fun r20 =>
if (!decide (r20 = r8)) then (.rt false) else (if (decide (((r13).length : Int) = (0 : Int))) then (.bk (s11.1, s11.2.1, s11.2.2.1, s11.2.2.2)) else (bindR (f_law_draw (s11.1, ((r13).length : Int))) fun r21 =>
bindR (idx r13 r21.1) fun t22 =>
lt ((s11.2.1).length : Int) fun (many_23 : Int) =>
bindR (f_law_behind (s11.2.1, s11.2.2.1, t22.1, t22.2)) fun r24 =>
if (decide (many_23 ≤ ((r24.1).length : Int))) then (.rt false) else (bindR (appR s11.2.2.2 (r24.1, r24.2)) fun ys25 =>
.nx (r21.2, r24.1, r24.2, ys25))))))) l10 (r6.2, r2.1, t5, way_9)).bind fun (s11 : ((List Int) × (List (Str × Int)) × Int × (List ((List (Str × Int)) × Int)))) =>
(forO (fun (s26 : Unit) (b27 : ((List (Str × Int)) × Int)) =>
bindR (f_law_listed b27.1) fun r28 =>
bindR (f_normal (((dL (dL id)) r28), (PyData.int b27.2))) fun r29 =>
bindR (f_law_pair_told (r29, (s11.2.1, s11.2.2.1))) fun r30 =>
if (!r30) then (.rt false) else (.nx ())) s11.2.2.2 ()).bind fun (s26 : Unit) =>
O.bind (bindR (idx s11.2.2.2 (0 : Int)) fun t32 =>
if (decide (t32.2 = (0 : Int))) then (bindR (idx s11.2.2.2 (0 : Int)) fun t33 =>
bindR (f_normal (((dT (dP2 PyData.str PyData.int)) t33.1), (PyData.int (0 : Int)))) fun r34 =>
bindR (eqR ((dP2 (dT (dP2 PyData.str PyData.int)) PyData.int) r34) ((dP2 (dT (dP2 PyData.str PyData.int)) PyData.int) (s11.2.1, s11.2.2.1))) fun t35 =>
.nx (!t35)) else (.nx false)) fun (j31 : Bool) =>
if j31 then (.rt false) else (bindR (idx s11.2.2.2 (0 : Int)) fun t36 =>
bindR (f_law_refusals t36.1) fun r37 =>
.rt r37)
def f_law (a : (List Int)) : R Bool := fin (m_law a) fun z => z.elim
end Lw

set_option Elab.async false
set_option linter.all false
set_option maxRecDepth 100000
set_option maxHeartbeats 4000000
/-! the defs do what their mirrors tell -/
namespace Lw
open PySem L2 Gv
def top (i : Nat) : Stmt := PySem.Challenge.pw_guardrungs_k24_rules.main.body.getD i (.Pass ⟨0, 0, 0, 0⟩)
abbrev st_is_whole : Stmt := top 7
theorem sc_is_whole : FnScope ["value"] ["value"] (defScope st_is_whole) := ⟨rfl, rfl, rfl, by decide +kernel, rfl, by decide +kernel, by decide +kernel⟩
abbrev pre_is_whole (a : PyData) (as : List Addr) : List (Option Tm) := [some (.dat (eD a))]
abbrev post_is_whole (r : Bool) (as : List Addr) : List (Option Tm) := [none]
abbrev ret_is_whole (r : Bool) : Tm := .dat (eB r)
abbrev st_whole_in : Stmt := top 8
theorem sc_whole_in : FnScope ["value", "low", "high"] ["value", "low", "high"] (defScope st_whole_in) := ⟨rfl, rfl, rfl, by decide +kernel, rfl, by decide +kernel, by decide +kernel⟩
abbrev pre_whole_in (a : (PyData × Int × Int)) (as : List Addr) : List (Option Tm) := [some (.dat (eD a.1)), some (.dat (eI a.2.1)), some (.dat (eI a.2.2))]
abbrev post_whole_in (r : Bool) (as : List Addr) : List (Option Tm) := [none, none, none]
abbrev ret_whole_in (r : Bool) : Tm := .dat (eB r)
abbrev st_is_bit : Stmt := top 5
theorem sc_is_bit : FnScope ["value"] ["value"] (defScope st_is_bit) := ⟨rfl, rfl, rfl, by decide +kernel, rfl, by decide +kernel, by decide +kernel⟩
abbrev pre_is_bit (a : PyData) (as : List Addr) : List (Option Tm) := [some (.dat (eD a))]
abbrev post_is_bit (r : Bool) (as : List Addr) : List (Option Tm) := [none]
abbrev ret_is_bit (r : Bool) : Tm := .dat (eB r)
abbrev st_check_row : Stmt := top 6
theorem sc_check_row : FnScope ["row", "many", "place", "bit"] ["row", "many"] (defScope st_check_row) := ⟨rfl, rfl, rfl, by decide +kernel, rfl, by decide +kernel, by decide +kernel⟩
abbrev pre_check_row (a : (PyData × Int)) (as : List Addr) : List (Option Tm) := [some (.dat (eD a.1)), some (.dat (eI a.2))]
abbrev post_check_row (r : (List Int)) (as : List Addr) : List (Option Tm) := [none, none]
abbrev ret_check_row (r : (List Int)) : Tm := .dat ((eT eI) r)
abbrev st_checked_bits : Stmt := top 11
theorem sc_checked_bits : FnScope ["bits"] ["bits"] (defScope st_checked_bits) := ⟨rfl, rfl, rfl, by decide +kernel, rfl, by decide +kernel, by decide +kernel⟩
abbrev pre_checked_bits (a : PyData) (as : List Addr) : List (Option Tm) := [some (.dat (eD a))]
abbrev post_checked_bits (r : (List Int)) (as : List Addr) : List (Option Tm) := [none]
abbrev ret_checked_bits (r : (List Int)) : Tm := .dat ((eT eI) r)
abbrev st_delayed : Stmt := top 10
theorem sc_delayed : FnScope ["bits", "d", "row", "zeros"] ["bits", "d"] (defScope st_delayed) := ⟨rfl, rfl, rfl, by decide +kernel, rfl, by decide +kernel, by decide +kernel⟩
abbrev pre_delayed (a : (PyData × PyData)) (as : List Addr) : List (Option Tm) := [some (.dat (eD a.1)), some (.dat (eD a.2))]
abbrev post_delayed (r : (List Int)) (as : List Addr) : List (Option Tm) := [none, none]
abbrev ret_delayed (r : (List Int)) : Tm := .dat ((eT eI) r)
abbrev st_checked_clocks : Stmt := top 20
theorem sc_checked_clocks : FnScope ["row", "word", "found", "clock", "kind", "number"] ["row", "word"] (defScope st_checked_clocks) := ⟨rfl, rfl, rfl, by decide +kernel, rfl, by decide +kernel, by decide +kernel⟩
abbrev pre_checked_clocks (a : (PyData × Str)) (as : List Addr) : List (Option Tm) := [some (.dat (eD a.1)), some (.dat (eS a.2))]
abbrev post_checked_clocks (r : (List (Str × Int))) (as : List Addr) : List (Option Tm) := [none, none]
abbrev ret_checked_clocks (r : (List (Str × Int))) : Tm := .dat ((eT (eP2 eS eI)) r)
abbrev st_check_timer_row : Stmt := top 14
theorem sc_check_timer_row : FnScope ["row"] ["row"] (defScope st_check_timer_row) := ⟨rfl, rfl, rfl, by decide +kernel, rfl, by decide +kernel, by decide +kernel⟩
abbrev pre_check_timer_row (a : PyData) (as : List Addr) : List (Option Tm) := [some (.dat (eD a))]
abbrev post_check_timer_row (r : Unit) (as : List Addr) : List (Option Tm) := [none]
abbrev ret_check_timer_row (r : Unit) : Tm := .dat eN
abbrev st_check_delay : Stmt := top 21
theorem sc_check_delay : FnScope ["delay", "word"] ["delay", "word"] (defScope st_check_delay) := ⟨rfl, rfl, rfl, by decide +kernel, rfl, by decide +kernel, by decide +kernel⟩
abbrev pre_check_delay (a : (PyData × Str)) (as : List Addr) : List (Option Tm) := [some (.dat (eD a.1)), some (.dat (eS a.2))]
abbrev post_check_delay (r : Unit) (as : List Addr) : List (Option Tm) := [none, none]
abbrev ret_check_delay (r : Unit) : Tm := .dat eN
abbrev st_through_clock : Stmt := top 22
theorem sc_through_clock : FnScope ["kind", "number", "bits", "wanted", "run", "found", "bit"] ["kind", "number", "bits"] (defScope st_through_clock) := ⟨rfl, rfl, rfl, by decide +kernel, rfl, by decide +kernel, by decide +kernel⟩
abbrev pre_through_clock (a : (Str × Int × (List Int))) (as : List Addr) : List (Option Tm) := [some (.dat (eS a.1)), some (.dat (eI a.2.1)), some (.dat ((eT eI) a.2.2))]
abbrev post_through_clock (r : (List Int)) (as : List Addr) : List (Option Tm) := [none, none, none]
abbrev ret_through_clock (r : (List Int)) : Tm := .dat ((eT eI) r)
abbrev st_row_bits : Stmt := top 15
theorem sc_row_bits : FnScope ["row", "bits", "delay", "clocks", "found", "kind", "number"] ["row", "bits", "delay"] (defScope st_row_bits) := ⟨rfl, rfl, rfl, by decide +kernel, rfl, by decide +kernel, by decide +kernel⟩
abbrev pre_row_bits (a : (PyData × PyData × PyData)) (as : List Addr) : List (Option Tm) := [some (.dat (eD a.1)), some (.dat (eD a.2.1)), some (.dat (eD a.2.2))]
abbrev post_row_bits (r : (List Int)) (as : List Addr) : List (Option Tm) := [none, none, none]
abbrev ret_row_bits (r : (List Int)) : Tm := .dat ((eT eI) r)
abbrev st_rule_here : Stmt := top 23
theorem sc_rule_here : FnScope ["clocks", "place", "here", "kinds", "numbers", "clock"] ["clocks", "place"] (defScope st_rule_here) := ⟨rfl, rfl, rfl, by decide +kernel, rfl, by decide +kernel, by decide +kernel⟩
abbrev pre_rule_here (a : ((List (Str × Int)) × Int)) (as : List Addr) : List (Option Tm) := [some (.dat ((eT (eP2 eS eI)) a.1)), some (.dat (eI a.2))]
abbrev post_rule_here (r : Str) (as : List Addr) : List (Option Tm) := [none, none]
abbrev ret_rule_here (r : Str) : Tm := .dat (eS r)
abbrev st_usable_rules : Stmt := top 24
theorem sc_usable_rules : FnScope ["clocks", "found", "place", "pair"] ["clocks"] (defScope st_usable_rules) := ⟨rfl, rfl, rfl, by decide +kernel, rfl, by decide +kernel, by decide +kernel⟩
abbrev pre_usable_rules (a : (List (Str × Int))) (as : List Addr) : List (Option Tm) := [some (.dat ((eT (eP2 eS eI)) a))]
abbrev post_usable_rules (r : (List (Int × Str))) (as : List Addr) : List (Option Tm) := [none]
abbrev ret_usable_rules (r : (List (Int × Str))) : Tm := .dat ((eT (eP2 eI eS)) r)
abbrev st_first_rule : Stmt := top 25
theorem sc_first_rule : FnScope ["clocks", "pairs", "simple", "pair"] ["clocks"] (defScope st_first_rule) := ⟨rfl, rfl, rfl, by decide +kernel, rfl, by decide +kernel, by decide +kernel⟩
abbrev pre_first_rule (a : (List (Str × Int))) (as : List Addr) : List (Option Tm) := [some (.dat ((eT (eP2 eS eI)) a))]
abbrev post_first_rule (r : (Option (Int × Str))) (as : List Addr) : List (Option Tm) := [none]
abbrev ret_first_rule (r : (Option (Int × Str))) : Tm := .dat ((eO (eP2 eI eS)) r)
abbrev st_ruled : Stmt := top 26
theorem sc_ruled : FnScope ["clocks", "delay", "place", "rule", "head", "middle", "end", "kind", "number"] ["clocks", "delay", "place", "rule"] (defScope st_ruled) := ⟨rfl, rfl, rfl, by decide +kernel, rfl, by decide +kernel, by decide +kernel⟩
abbrev pre_ruled (a : ((List (Str × Int)) × Int × Int × Str)) (as : List Addr) : List (Option Tm) := [some (.dat ((eT (eP2 eS eI)) a.1)), some (.dat (eI a.2.1)), some (.dat (eI a.2.2.1)), some (.dat (eS a.2.2.2))]
abbrev post_ruled (r : ((List (Str × Int)) × Int)) (as : List Addr) : List (Option Tm) := [none, none, none, none]
abbrev ret_ruled (r : ((List (Str × Int)) × Int)) : Tm := .dat ((eP2 (eT (eP2 eS eI)) eI) r)
abbrev st_normal_clocks : Stmt := top 27
theorem sc_normal_clocks : FnScope ["clocks", "delay", "first"] ["clocks", "delay"] (defScope st_normal_clocks) := ⟨rfl, rfl, rfl, by decide +kernel, rfl, by decide +kernel, by decide +kernel⟩
abbrev pre_normal_clocks (a : ((List (Str × Int)) × Int)) (as : List Addr) : List (Option Tm) := [some (.dat ((eT (eP2 eS eI)) a.1)), some (.dat (eI a.2))]
abbrev post_normal_clocks (r : ((List (Str × Int)) × Int)) (as : List Addr) : List (Option Tm) := [none, none]
abbrev ret_normal_clocks (r : ((List (Str × Int)) × Int)) : Tm := .dat ((eP2 (eT (eP2 eS eI)) eI) r)
abbrev st_normal : Stmt := top 16
theorem sc_normal : FnScope ["row", "delay", "clocks"] ["row", "delay"] (defScope st_normal) := ⟨rfl, rfl, rfl, by decide +kernel, rfl, by decide +kernel, by decide +kernel⟩
abbrev pre_normal (a : (PyData × PyData)) (as : List Addr) : List (Option Tm) := [some (.dat (eD a.1)), some (.dat (eD a.2))]
abbrev post_normal (r : ((List (Str × Int)) × Int)) (as : List Addr) : List (Option Tm) := [none, none]
abbrev ret_normal (r : ((List (Str × Int)) × Int)) : Tm := .dat ((eP2 (eT (eP2 eS eI)) eI) r)
abbrev st_one_rule : Stmt := top 17
theorem sc_one_rule : FnScope ["row", "delay", "clocks", "first"] ["row", "delay"] (defScope st_one_rule) := ⟨rfl, rfl, rfl, by decide +kernel, rfl, by decide +kernel, by decide +kernel⟩
abbrev pre_one_rule (a : (PyData × PyData)) (as : List Addr) : List (Option Tm) := [some (.dat (eD a.1)), some (.dat (eD a.2))]
abbrev post_one_rule (r : (Option ((List (Str × Int)) × Int × Str))) (as : List Addr) : List (Option Tm) := [none, none]
abbrev ret_one_rule (r : (Option ((List (Str × Int)) × Int × Str))) : Tm := .dat ((eO (eP3 (eT (eP2 eS eI)) eI eS)) r)
abbrev st_rules_at : Stmt := top 18
theorem sc_rules_at : FnScope ["row"] ["row"] (defScope st_rules_at) := ⟨rfl, rfl, rfl, by decide +kernel, rfl, by decide +kernel, by decide +kernel⟩
abbrev pre_rules_at (a : PyData) (as : List Addr) : List (Option Tm) := [some (.dat (eD a))]
abbrev post_rules_at (r : (List (Int × Str))) (as : List Addr) : List (Option Tm) := [none]
abbrev ret_rules_at (r : (List (Int × Str))) : Tm := .dat ((eT (eP2 eI eS)) r)
abbrev st_use : Stmt := top 19
theorem sc_use : FnScope ["row", "delay", "place", "clocks", "spot", "rule"] ["row", "delay", "place"] (defScope st_use) := ⟨rfl, rfl, rfl, by decide +kernel, rfl, by decide +kernel, by decide +kernel⟩
abbrev pre_use (a : (PyData × PyData × PyData)) (as : List Addr) : List (Option Tm) := [some (.dat (eD a.1)), some (.dat (eD a.2.1)), some (.dat (eD a.2.2))]
abbrev post_use (r : ((List (Str × Int)) × Int)) (as : List Addr) : List (Option Tm) := [none, none, none]
abbrev ret_use (r : ((List (Str × Int)) × Int)) : Tm := .dat ((eP2 (eT (eP2 eS eI)) eI) r)
abbrev st_law_numbers : Stmt := top 29
theorem sc_law_numbers : FnScope ["script", "numbers", "place", "cell", "turned", "turn", "seed"] ["script"] (defScope st_law_numbers) := ⟨rfl, rfl, rfl, by decide +kernel, rfl, by decide +kernel, by decide +kernel⟩
abbrev pre_law_numbers (a : (List Int)) (as : List Addr) : List (Option Tm) := [some (.dat ((eL eI) a))]
abbrev post_law_numbers (r : (List Int)) (as : List Addr) : List (Option Tm) := [none]
abbrev ret_law_numbers (r : (List Int)) : Tm := .own none (.lst (List.map eI r))
abbrev st_law_draw : Stmt := top 30
theorem sc_law_draw : FnScope ["numbers", "many"] ["numbers", "many"] (defScope st_law_draw) := ⟨rfl, rfl, rfl, by decide +kernel, rfl, by decide +kernel, by decide +kernel⟩
abbrev pre_law_draw (a : ((List Int) × Int)) (as : List Addr) : List (Option Tm) := [some (.own (as[0]?) (.lst (List.map eI a.1))), some (.dat (eI a.2))]
abbrev post_law_draw (r : (Int × (List Int))) (as : List Addr) : List (Option Tm) := [some (.own (as[0]?) (.lst (List.map eI r.2))), none]
abbrev ret_law_draw (r : (Int × (List Int))) : Tm := .dat (eI r.1)
abbrev st_law_int : Stmt := top 31
theorem sc_law_int : FnScope ["value"] ["value"] (defScope st_law_int) := ⟨rfl, rfl, rfl, by decide +kernel, rfl, by decide +kernel, by decide +kernel⟩
abbrev pre_law_int (a : PyData) (as : List Addr) : List (Option Tm) := [some (.dat (eD a))]
abbrev post_law_int (r : Bool) (as : List Addr) : List (Option Tm) := [none]
abbrev ret_law_int (r : Bool) : Tm := .dat (eB r)
abbrev st_law_bits_ok : Stmt := top 32
theorem sc_law_bits_ok : FnScope ["row", "many", "bit"] ["row", "many"] (defScope st_law_bits_ok) := ⟨rfl, rfl, rfl, by decide +kernel, rfl, by decide +kernel, by decide +kernel⟩
abbrev pre_law_bits_ok (a : ((List Int) × Int)) (as : List Addr) : List (Option Tm) := [some (.dat ((eT eI) a.1)), some (.dat (eI a.2))]
abbrev post_law_bits_ok (r : Bool) (as : List Addr) : List (Option Tm) := [none, none]
abbrev ret_law_bits_ok (r : Bool) : Tm := .dat (eB r)
abbrev st_law_clocks : Stmt := top 33
theorem sc_law_clocks : FnScope ["numbers", "many", "most", "turning", "kinds", "side", "row", "k"] ["numbers"] (defScope st_law_clocks) := ⟨rfl, rfl, rfl, by decide +kernel, rfl, by decide +kernel, by decide +kernel⟩
abbrev pre_law_clocks (a : (List Int)) (as : List Addr) : List (Option Tm) := [some (.own (as[0]?) (.lst (List.map eI a)))]
abbrev post_law_clocks (r : ((List (Str × Int)) × (List Int))) (as : List Addr) : List (Option Tm) := [some (.own (as[0]?) (.lst (List.map eI r.2)))]
abbrev ret_law_clocks (r : ((List (Str × Int)) × (List Int))) : Tm := .dat ((eT (eP2 eS eI)) r.1)
abbrev st_law_runs : Stmt := top 34
theorem sc_law_runs : FnScope ["numbers", "bits", "bit", "longest", "turn"] ["numbers"] (defScope st_law_runs) := ⟨rfl, rfl, rfl, by decide +kernel, rfl, by decide +kernel, by decide +kernel⟩
abbrev pre_law_runs (a : (List Int)) (as : List Addr) : List (Option Tm) := [some (.own (as[0]?) (.lst (List.map eI a)))]
abbrev post_law_runs (r : ((List Int) × (List Int))) (as : List Addr) : List (Option Tm) := [some (.own (as[0]?) (.lst (List.map eI r.2)))]
abbrev ret_law_runs (r : ((List Int) × (List Int))) : Tm := .dat ((eT eI) r.1)
abbrev st_law_out : Stmt := top 35
theorem sc_law_out : FnScope ["row", "delay", "bits", "found", "kind", "number", "wanted", "run", "worked", "bit"] ["row", "delay", "bits"] (defScope st_law_out) := ⟨rfl, rfl, rfl, by decide +kernel, rfl, by decide +kernel, by decide +kernel⟩
abbrev pre_law_out (a : ((List (Str × Int)) × Int × (List Int))) (as : List Addr) : List (Option Tm) := [some (.dat ((eT (eP2 eS eI)) a.1)), some (.dat (eI a.2.1)), some (.dat ((eT eI) a.2.2))]
abbrev post_law_out (r : (List Int)) (as : List Addr) : List (Option Tm) := [none, none, none]
abbrev ret_law_out (r : (List Int)) : Tm := .dat ((eT eI) r)
abbrev st_law_rule : Stmt := top 36
theorem sc_law_rule : FnScope ["row", "place", "kind", "number"] ["row", "place"] (defScope st_law_rule) := ⟨rfl, rfl, rfl, by decide +kernel, rfl, by decide +kernel, by decide +kernel⟩
abbrev pre_law_rule (a : ((List (Str × Int)) × Int)) (as : List Addr) : List (Option Tm) := [some (.dat ((eT (eP2 eS eI)) a.1)), some (.dat (eI a.2))]
abbrev post_law_rule (r : Str) (as : List Addr) : List (Option Tm) := [none, none]
abbrev ret_law_rule (r : Str) : Tm := .dat (eS r)
abbrev st_law_rules : Stmt := top 37
theorem sc_law_rules : FnScope ["row", "found", "place", "pair"] ["row"] (defScope st_law_rules) := ⟨rfl, rfl, rfl, by decide +kernel, rfl, by decide +kernel, by decide +kernel⟩
abbrev pre_law_rules (a : (List (Str × Int))) (as : List Addr) : List (Option Tm) := [some (.dat ((eT (eP2 eS eI)) a))]
abbrev post_law_rules (r : (List (Int × Str))) (as : List Addr) : List (Option Tm) := [none]
abbrev ret_law_rules (r : (List (Int × Str))) : Tm := .dat ((eL (eP2 eI eS)) r)
abbrev st_law_behind : Stmt := top 38
theorem sc_law_behind : FnScope ["row", "delay", "place", "rule", "ahead", "middle", "last", "kind", "number"] ["row", "delay", "place", "rule"] (defScope st_law_behind) := ⟨rfl, rfl, rfl, by decide +kernel, rfl, by decide +kernel, by decide +kernel⟩
abbrev pre_law_behind (a : ((List (Str × Int)) × Int × Int × Str)) (as : List Addr) : List (Option Tm) := [some (.dat ((eT (eP2 eS eI)) a.1)), some (.dat (eI a.2.1)), some (.dat (eI a.2.2.1)), some (.dat (eS a.2.2.2))]
abbrev post_law_behind (r : ((List (Str × Int)) × Int)) (as : List Addr) : List (Option Tm) := [none, none, none, none]
abbrev ret_law_behind (r : ((List (Str × Int)) × Int)) : Tm := .dat ((eP2 (eT (eP2 eS eI)) eI) r)
abbrev st_law_sums : Stmt := top 39
theorem sc_law_sums : FnScope ["row", "delay", "on", "off", "clock"] ["row", "delay"] (defScope st_law_sums) := ⟨rfl, rfl, rfl, by decide +kernel, rfl, by decide +kernel, by decide +kernel⟩
abbrev pre_law_sums (a : ((List (Str × Int)) × Int)) (as : List Addr) : List (Option Tm) := [some (.dat ((eT (eP2 eS eI)) a.1)), some (.dat (eI a.2))]
abbrev post_law_sums (r : (List Int)) (as : List Addr) : List (Option Tm) := [none, none]
abbrev ret_law_sums (r : (List Int)) : Tm := .dat ((eL eI) r)
abbrev st_law_pair_told : Stmt := top 40
theorem sc_law_pair_told : FnScope ["told", "due", "clock"] ["told", "due"] (defScope st_law_pair_told) := ⟨rfl, rfl, rfl, by decide +kernel, rfl, by decide +kernel, by decide +kernel⟩
abbrev pre_law_pair_told (a : (((List (Str × Int)) × Int) × ((List (Str × Int)) × Int))) (as : List Addr) : List (Option Tm) := [some (.dat ((eP2 (eT (eP2 eS eI)) eI) a.1)), some (.dat ((eP2 (eT (eP2 eS eI)) eI) a.2))]
abbrev post_law_pair_told (r : Bool) (as : List Addr) : List (Option Tm) := [none, none]
abbrev ret_law_pair_told (r : Bool) : Tm := .dat (eB r)
abbrev st_law_first : Stmt := top 41
theorem sc_law_first : FnScope ["row", "delay", "rules", "simple", "chosen", "pair"] ["row", "delay", "rules"] (defScope st_law_first) := ⟨rfl, rfl, rfl, by decide +kernel, rfl, by decide +kernel, by decide +kernel⟩
abbrev pre_law_first (a : ((List (Str × Int)) × Int × (List (Int × Str)))) (as : List Addr) : List (Option Tm) := [some (.dat ((eT (eP2 eS eI)) a.1)), some (.dat (eI a.2.1)), some (.dat ((eL (eP2 eI eS)) a.2.2))]
abbrev post_law_first (r : (Option ((List (Str × Int)) × Int × Str))) (as : List Addr) : List (Option Tm) := [none, none, none]
abbrev ret_law_first (r : (Option ((List (Str × Int)) × Int × Str))) : Tm := .dat ((eO (eP3 (eT (eP2 eS eI)) eI eS)) r)
abbrev st_law_listed : Stmt := top 42
theorem sc_law_listed : FnScope ["row", "clock"] ["row"] (defScope st_law_listed) := ⟨rfl, rfl, rfl, by decide +kernel, rfl, by decide +kernel, by decide +kernel⟩
abbrev pre_law_listed (a : (List (Str × Int))) (as : List Addr) : List (Option Tm) := [some (.dat ((eT (eP2 eS eI)) a))]
abbrev post_law_listed (r : (List (List PyData))) (as : List Addr) : List (Option Tm) := [none]
abbrev ret_law_listed (r : (List (List PyData))) : Tm := .dat ((eL (eL eD)) r)
abbrev st_law_turn : Stmt := top 43
theorem sc_law_turn : FnScope ["row", "delay", "rules", "told", "given", "place", "rule", "word", "refused", "led", "pair"] ["row", "delay", "rules"] (defScope st_law_turn) := ⟨rfl, rfl, rfl, by decide +kernel, rfl, by decide +kernel, by decide +kernel⟩
abbrev pre_law_turn (a : ((List (Str × Int)) × Int × (List (Int × Str)))) (as : List Addr) : List (Option Tm) := [some (.dat ((eT (eP2 eS eI)) a.1)), some (.dat (eI a.2.1)), some (.dat ((eL (eP2 eI eS)) a.2.2))]
abbrev post_law_turn (r : Bool) (as : List Addr) : List (Option Tm) := [none, none, none]
abbrev ret_law_turn (r : Bool) : Tm := .dat (eB r)
abbrev st_law_word : Stmt := top 44
theorem sc_law_word : FnScope ["word", "row", "delay", "more", "refused"] ["word", "row", "delay", "more"] (defScope st_law_word) := ⟨rfl, rfl, rfl, by decide +kernel, rfl, by decide +kernel, by decide +kernel⟩
abbrev pre_law_word (a : (Int × PyData × PyData × PyData)) (as : List Addr) : List (Option Tm) := [some (.dat (eI a.1)), some (.dat (eD a.2.1)), some (.dat (eD a.2.2.1)), some (.dat (eD a.2.2.2))]
abbrev post_law_word (r : PyData) (as : List Addr) : List (Option Tm) := [none, none, none, none]
abbrev ret_law_word (r : PyData) : Tm := .dat (eD r)
abbrev st_law_refusals : Stmt := top 45
theorem sc_law_refusals : FnScope ["row", "bad", "worse", "word", "told", "clocks"] ["row"] (defScope st_law_refusals) := ⟨rfl, rfl, rfl, by decide +kernel, rfl, by decide +kernel, by decide +kernel⟩
abbrev pre_law_refusals (a : (List (Str × Int))) (as : List Addr) : List (Option Tm) := [some (.dat ((eT (eP2 eS eI)) a))]
abbrev post_law_refusals (r : Bool) (as : List Addr) : List (Option Tm) := [none]
abbrev ret_law_refusals (r : Bool) : Tm := .dat (eB r)
abbrev st_law : Stmt := top 46
theorem sc_law : FnScope ["script", "numbers", "row", "delay", "bits", "due", "sums", "way", "turn", "rules", "told", "many", "first", "late", "place", "rule"] ["script"] (defScope st_law) := ⟨rfl, rfl, rfl, by decide +kernel, rfl, by decide +kernel, by decide +kernel⟩
abbrev pre_law (a : (List Int)) (as : List Addr) : List (Option Tm) := [some (.dat ((eL eI) a))]
abbrev post_law (r : Bool) (as : List Addr) : List (Option Tm) := [none]
abbrev ret_law (r : Bool) : Tm := .dat (eB r)
abbrev sti_BadNumber : Stmt := inClass (top 3) 0
theorem sci_BadNumber : FnScope ["self", "word"] ["self", "word"] (defScope sti_BadNumber) := ⟨rfl, rfl, rfl, by decide +kernel, rfl, by decide +kernel, by decide +kernel⟩
abbrev sti_BadRow : Stmt := inClass (top 2) 0
theorem sci_BadRow : FnScope ["self", "place"] ["self", "place"] (defScope sti_BadRow) := ⟨rfl, rfl, rfl, by decide +kernel, rfl, by decide +kernel, by decide +kernel⟩
structure Zs where
  f_is_whole : Addr
  d_is_whole : FuncData
  f_whole_in : Addr
  d_whole_in : FuncData
  f_is_bit : Addr
  d_is_bit : FuncData
  f_check_row : Addr
  d_check_row : FuncData
  f_checked_bits : Addr
  d_checked_bits : FuncData
  f_delayed : Addr
  d_delayed : FuncData
  f_checked_clocks : Addr
  d_checked_clocks : FuncData
  f_check_timer_row : Addr
  d_check_timer_row : FuncData
  f_check_delay : Addr
  d_check_delay : FuncData
  f_through_clock : Addr
  d_through_clock : FuncData
  f_row_bits : Addr
  d_row_bits : FuncData
  f_rule_here : Addr
  d_rule_here : FuncData
  f_usable_rules : Addr
  d_usable_rules : FuncData
  f_first_rule : Addr
  d_first_rule : FuncData
  f_ruled : Addr
  d_ruled : FuncData
  f_normal_clocks : Addr
  d_normal_clocks : FuncData
  f_normal : Addr
  d_normal : FuncData
  f_one_rule : Addr
  d_one_rule : FuncData
  f_rules_at : Addr
  d_rules_at : FuncData
  f_use : Addr
  d_use : FuncData
  f_law_numbers : Addr
  d_law_numbers : FuncData
  f_law_draw : Addr
  d_law_draw : FuncData
  f_law_int : Addr
  d_law_int : FuncData
  f_law_bits_ok : Addr
  d_law_bits_ok : FuncData
  f_law_clocks : Addr
  d_law_clocks : FuncData
  f_law_runs : Addr
  d_law_runs : FuncData
  f_law_out : Addr
  d_law_out : FuncData
  f_law_rule : Addr
  d_law_rule : FuncData
  f_law_rules : Addr
  d_law_rules : FuncData
  f_law_behind : Addr
  d_law_behind : FuncData
  f_law_sums : Addr
  d_law_sums : FuncData
  f_law_pair_told : Addr
  d_law_pair_told : FuncData
  f_law_first : Addr
  d_law_first : FuncData
  f_law_listed : Addr
  d_law_listed : FuncData
  f_law_turn : Addr
  d_law_turn : FuncData
  f_law_word : Addr
  d_law_word : FuncData
  f_law_refusals : Addr
  d_law_refusals : FuncData
  f_law : Addr
  d_law : FuncData
  c_BadNumber : Addr
  i_BadNumber : Addr
  j_BadNumber : FuncData
  c_BadRow : Addr
  i_BadRow : Addr
  j_BadRow : FuncData
  ec : Str → Addr
  t_ROW_KINDS : Addr
structure Txt (K : PySem.W.Frag) (mg : Str → Option Value) (Z : Zs) : Prop where
  z_bool : mg "bool" = none
  z_enumerate : mg "enumerate" = none
  z_int : mg "int" = none
  z_isinstance : mg "isinstance" = none
  z_len : mg "len" = none
  z_list : mg "list" = none
  z_min : mg "min" = none
  z_range : mg "range" = none
  z_str : mg "str" = none
  z_sum : mg "sum" = none
  z_tuple : mg "tuple" = none
  k_ROW_KINDS : ∃ u, mg "ROW_KINDS" = some u ∧ RelV (.ref Z.t_ROW_KINDS) u
  t_ROW_KINDS : ∀ H, SqT K H Z.t_ROW_KINDS ([("on" : Str), ("off" : Str)].map V.str)
  d_is_whole : Df K mg "_is_whole" st_is_whole Z.f_is_whole Z.d_is_whole ["value"]
  d_whole_in : Df K mg "_whole_in" st_whole_in Z.f_whole_in Z.d_whole_in ["value", "low", "high"]
  d_is_bit : Df K mg "is_bit" st_is_bit Z.f_is_bit Z.d_is_bit ["value"]
  d_check_row : Df K mg "check_row" st_check_row Z.f_check_row Z.d_check_row ["row", "many"]
  d_checked_bits : Df K mg "_checked_bits" st_checked_bits Z.f_checked_bits Z.d_checked_bits ["bits"]
  d_delayed : Df K mg "delayed" st_delayed Z.f_delayed Z.d_delayed ["bits", "d"]
  d_checked_clocks : Df K mg "_checked_clocks" st_checked_clocks Z.f_checked_clocks Z.d_checked_clocks ["row", "word"]
  d_check_timer_row : Df K mg "check_timer_row" st_check_timer_row Z.f_check_timer_row Z.d_check_timer_row ["row"]
  d_check_delay : Df K mg "_check_delay" st_check_delay Z.f_check_delay Z.d_check_delay ["delay", "word"]
  d_through_clock : Df K mg "_through_clock" st_through_clock Z.f_through_clock Z.d_through_clock ["kind", "number", "bits"]
  d_row_bits : DfK K mg "row_bits" st_row_bits Z.f_row_bits Z.d_row_bits ["row", "bits", "delay"] 2 ["delay"]
  d_rule_here : Df K mg "_rule_here" st_rule_here Z.f_rule_here Z.d_rule_here ["clocks", "place"]
  d_usable_rules : Df K mg "_usable_rules" st_usable_rules Z.f_usable_rules Z.d_usable_rules ["clocks"]
  d_first_rule : Df K mg "_first_rule" st_first_rule Z.f_first_rule Z.d_first_rule ["clocks"]
  d_ruled : Df K mg "_ruled" st_ruled Z.f_ruled Z.d_ruled ["clocks", "delay", "place", "rule"]
  d_normal_clocks : Df K mg "_normal_clocks" st_normal_clocks Z.f_normal_clocks Z.d_normal_clocks ["clocks", "delay"]
  d_normal : DfK K mg "normal" st_normal Z.f_normal Z.d_normal ["row", "delay"] 1 ["delay"]
  bd_normal : ∃ ds : List Value, Vals [.int 0] ds ∧ Binds K Z.d_normal ["row", "delay"] ds
  d_one_rule : Df K mg "one_rule" st_one_rule Z.f_one_rule Z.d_one_rule ["row", "delay"]
  d_rules_at : Df K mg "rules_at" st_rules_at Z.f_rules_at Z.d_rules_at ["row"]
  d_use : Df K mg "use" st_use Z.f_use Z.d_use ["row", "delay", "place"]
  d_law_numbers : Df K mg "_law_numbers" st_law_numbers Z.f_law_numbers Z.d_law_numbers ["script"]
  d_law_draw : Df K mg "_law_draw" st_law_draw Z.f_law_draw Z.d_law_draw ["numbers", "many"]
  d_law_int : Df K mg "_law_int" st_law_int Z.f_law_int Z.d_law_int ["value"]
  d_law_bits_ok : Df K mg "_law_bits_ok" st_law_bits_ok Z.f_law_bits_ok Z.d_law_bits_ok ["row", "many"]
  d_law_clocks : Df K mg "_law_clocks" st_law_clocks Z.f_law_clocks Z.d_law_clocks ["numbers"]
  d_law_runs : Df K mg "_law_runs" st_law_runs Z.f_law_runs Z.d_law_runs ["numbers"]
  d_law_out : Df K mg "_law_out" st_law_out Z.f_law_out Z.d_law_out ["row", "delay", "bits"]
  d_law_rule : Df K mg "_law_rule" st_law_rule Z.f_law_rule Z.d_law_rule ["row", "place"]
  d_law_rules : Df K mg "_law_rules" st_law_rules Z.f_law_rules Z.d_law_rules ["row"]
  d_law_behind : Df K mg "_law_behind" st_law_behind Z.f_law_behind Z.d_law_behind ["row", "delay", "place", "rule"]
  d_law_sums : Df K mg "_law_sums" st_law_sums Z.f_law_sums Z.d_law_sums ["row", "delay"]
  d_law_pair_told : Df K mg "_law_pair_told" st_law_pair_told Z.f_law_pair_told Z.d_law_pair_told ["told", "due"]
  d_law_first : Df K mg "_law_first" st_law_first Z.f_law_first Z.d_law_first ["row", "delay", "rules"]
  d_law_listed : Df K mg "_law_listed" st_law_listed Z.f_law_listed Z.d_law_listed ["row"]
  d_law_turn : Df K mg "_law_turn" st_law_turn Z.f_law_turn Z.d_law_turn ["row", "delay", "rules"]
  d_law_word : Df K mg "_law_word" st_law_word Z.f_law_word Z.d_law_word ["word", "row", "delay", "more"]
  d_law_refusals : Df K mg "_law_refusals" st_law_refusals Z.f_law_refusals Z.d_law_refusals ["row"]
  d_law : Df K mg "law" st_law Z.f_law Z.d_law ["script"]
  x_BadNumber : Ex1 K mg "BadNumber" "BadNumber.__init__" ["word"] sti_BadNumber Z.c_BadNumber Z.i_BadNumber Z.j_BadNumber
  ec_BadNumber : Z.ec "BadNumber" = Z.c_BadNumber
  x_BadRow : Ex1 K mg "BadRow" "BadRow.__init__" ["place"] sti_BadRow Z.c_BadRow Z.i_BadRow Z.j_BadRow
  ec_BadRow : Z.ec "BadRow" = Z.c_BadRow
  sub_BadNumber : ∀ nm r, sub_BadNumber nm = some r → PySem.W.exmOne K (.ref (Z.ec nm)) (.ref Z.c_BadNumber) = some r
  sub_BadRow : ∀ nm r, sub_BadRow nm = some r → PySem.W.exmOne K (.ref (Z.ec nm)) (.ref Z.c_BadRow) = some r
section
variable {P : Program} {w : World} {K : PySem.W.Frag} {mg : Str → Option Value} {base : Heap} {Z : Zs}
theorem ini_BadNumber (T : Txt K mg Z) : FnOk P w K mg base (L2.CX P w) 1 Z.i_BadNumber Z.j_BadNumber ["self", "word"] (spIni1 K "word") :=
  T.x_BadNumber.F.okX sci_BadNumber (fun vs H Q E h => by obtain ⟨a, C, y, e, _⟩ := h; rw [e]; rfl) fun cdv A outer s H vs Q E hr h => ⟨_, pss_cons (ps_ost (pv 0) (pv 1)) pss_nil, ini1_ok rfl (fun a y e => by subst e; exact ⟨rfl, rfl⟩) h⟩
theorem ini_BadRow (T : Txt K mg Z) : FnOk P w K mg base (L2.CX P w) 1 Z.i_BadRow Z.j_BadRow ["self", "place"] (spIni1 K "place") :=
  T.x_BadRow.F.okX sci_BadRow (fun vs H Q E h => by obtain ⟨a, C, y, e, _⟩ := h; rw [e]; rfl) fun cdv A outer s H vs Q E hr h => ⟨_, pss_cons (ps_ost (pv 0) (pv 1)) pss_nil, ini1_ok rfl (fun a y e => by subst e; exact ⟨rfl, rfl⟩) h⟩
theorem ok_is_whole (T : Txt K mg Z) : FnOk P w K mg base (L2.CX P w) 1 Z.f_is_whole Z.d_is_whole ["value"] (Spec K Z.ec 1 pre_is_whole f_is_whole post_is_whole ret_is_whole) := by
  refine fn_ok T.d_is_whole.F sc_is_whole rfl m_is_whole fun cdv A outer s H E hr => ?_
  refine ⟨_, (pss_cons (ps_ret (pe_and (pe_callB (r := rIsi K) call_isi (by rfl) T.z_isinstance (by decide +kernel) (pa_cons (pv 0) (pa_cons (pe_bltn (v := .ty "int") (u := .type "int") (by rfl) T.z_int (by decide +kernel) rfl) pa_nil))) (pe_one (pe_not (pe_callB (r := rIsi K) call_isi (by rfl) T.z_isinstance (by decide +kernel) (pa_cons (pv 0) (pa_cons (pe_bltn (v := .ty "bool") (u := .type "bool") (by rfl) T.z_bool (by decide +kernel) rfl) pa_nil)))))))
  pss_nil), ?_⟩
  intro a as _
  change BJ K _ [some (.dat (eD a))] _ _ _ _ _
  refine fun g σ H D hA hm => x_ret ?_
  refine (ev_andV (ev_isi (d := a) .int (ev_var rfl) dpt_d) (ev_notV (ev_isi (d := a) .bool (ev_var rfl) dpt_d))) _ _ _ _ _ hA fun v H hA => ?_
  exact hm v H _ (hA.weak1 (.d .nil) fun j z => nomatch z)
theorem ok_whole_in (T : Txt K mg Z) : FnOk P w K mg base (L2.CX P w) 2 Z.f_whole_in Z.d_whole_in ["value", "low", "high"] (Spec K Z.ec 3 pre_whole_in f_whole_in post_whole_in ret_whole_in) := by
  refine fn_ok T.d_whole_in.F sc_whole_in rfl m_whole_in fun cdv A outer s H E hr => ?_
  refine ⟨_, (pss_cons (ps_ret (pe_and (pe_callS (ok_is_whole (K := K) T) (hr.mono (by decide)) (by rfl) T.d_is_whole.g T.d_is_whole.F.kp T.d_is_whole.b (fun σ => passAt (takes_of rfl rfl rfl rfl) σ) (pa_cons (pv 0) pa_nil)) (pe_one (pe_chain op_le op_le (pv 1) (pv 0) (pv 2)))))
  pss_nil), ?_⟩
  intro a as _
  change BJ K _ [some (.dat (eD a.1)), some (.dat (eI a.2.1)), some (.dat (eI a.2.2))] _ _ _ _ _
  refine fun g σ H D hA hm => x_ret ?_
  refine f_joinV (fun (s : Bool) => [some (.dat (eD a.1)), some (.dat (eI a.2.1)), some (.dat (eI a.2.2))]) (fun s => .dat (eB s)) hA hm (fun hm => ?_) (fun j1 v H hA hm => ?_)
  ·
    refine x_andV ?_
    refine x_call1 ?_
    refine (ev_var rfl) _ _ _ _ _ hA fun v H hA => ?_
    refine f_call [.d (eD a.1)] a.1 (fun r => []) hA rfl rfl True.intro (fun as h => match as, h with | [], _ => rfl) (fun _ => rfl) (fun r as h => match as, h with | [], _ => rfl) (fun r j z => nomatch z) .nil (hm.bindR.imp (fun r2 hm v H hA => ?_) fun _ q => q)
    refine f_tst (P := fun c H1 => _) hA fun hA => ?_
    refine f_pick hm (fun hm => ?_) (fun hm => ?_)
    ·
      refine x_chain ?_
      refine (ev_var rfl) _ _ _ _ _ hA fun v H hA => ?_
      refine (ev_var rfl) _ _ _ _ _ hA fun v H hA => ?_
      refine f_int hA hm fun t3 hA hm => ?_
      refine f_chain (ev_var rfl) hA fun v H hA => ?_
      exact hm v H hA
    ·
      exact hm _ H (hA.scal fun _ => rfl)
  ·
    replace hA : At K g [some (.dat (eD a.1)), some (.dat (eI a.2.1)), some (.dat (eI a.2.2))] _ _ _ := hA
    exact hm v H _ (hA.weak1 (.d (.d (.d .nil))) fun j z => nomatch z)
theorem ok_is_bit (T : Txt K mg Z) : FnOk P w K mg base (L2.CX P w) 3 Z.f_is_bit Z.d_is_bit ["value"] (Spec K Z.ec 1 pre_is_bit f_is_bit post_is_bit ret_is_bit) := by
  refine fn_ok T.d_is_bit.F sc_is_bit rfl m_is_bit fun cdv A outer s H E hr => ?_
  refine ⟨_, (pss_cons (ps_ret (pe_callS (ok_whole_in (K := K) T) (hr.mono (by decide)) (by rfl) T.d_whole_in.g T.d_whole_in.F.kp T.d_whole_in.b (fun σ => passAt (takes_of rfl rfl rfl rfl) σ) (pa_cons (pv 0) (pa_cons pe_int (pa_cons pe_int pa_nil)))))
  pss_nil), ?_⟩
  intro a as _
  change BJ K _ [some (.dat (eD a))] _ _ _ _ _
  refine fun g σ H D hA hm => x_ret ?_
  refine x_call3 ?_
  refine (ev_var rfl) _ _ _ _ _ hA fun v H hA => ?_
  refine ev_int _ _ _ _ _ hA fun v H hA => ?_
  refine ev_int _ _ _ _ _ hA fun v H hA => ?_
  refine f_call [.d (eD a), .d (eI (0 : Int)), .d (eI (1 : Int))] (a, (0 : Int), (1 : Int)) (fun r => []) hA rfl rfl True.intro (fun as h => match as, h with | [], _ => rfl) (fun _ => rfl) (fun r as h => match as, h with | [], _ => rfl) (fun r j z => nomatch z) .nil (hm.bindR.imp (fun r1 hm v H hA => ?_) fun _ q => q)
  exact hm v H _ (hA.weak1 (.d .nil) fun j z => nomatch z)
theorem ok_check_row (T : Txt K mg Z) : FnOk P w K mg base (L2.CX P w) 4 Z.f_check_row Z.d_check_row ["row", "many"] (Spec K Z.ec 2 pre_check_row f_check_row post_check_row ret_check_row) := by
  refine fn_ok T.d_check_row.F sc_check_row rfl m_check_row fun cdv A outer s H E hr => ?_
  refine ⟨_, (pss_cons (ps_if (pw_or (pt_not (pt_val (pe_callB (r := rIsiT K) call_isiT (by rfl) T.z_isinstance (by decide +kernel) (pa_cons (pv 0) (pa_cons (pe_tup (pa_cons (pe_bltn (v := .ty "list") (u := .type "list") (by rfl) T.z_list (by decide +kernel) rfl) (pa_cons (pe_bltn (v := .ty "tuple") (u := .type "tuple") (by rfl) T.z_tuple (by decide +kernel) rfl) pa_nil))) pa_nil))))) (pw_or1 (pt_cmpR op_ne (pe_callB (r := rLen K) c_len (by rfl) T.z_len (by decide +kernel) (pa_cons (pv 0) pa_nil)) (pv 1) (nomark _)))).pt (pss_cons (ps_raise rfl (takes_of rfl rfl rfl rfl) (pmk_oex T.x_BadRow.oex T.x_BadRow.iC T.x_BadRow.tI (ini_BadRow T) (hr.mono (by decide)) T.x_BadRow.b .nil passL (by rfl) T.x_BadRow.g (pa_cons (pe_un un_neg pe_int) pa_nil)))
  pss_nil) pss_nil)
  (pss_cons (ps_for (passes_of rfl) rfl (pi_enumQ (by rfl) T.z_enumerate (pv 0)) (pg_tup rfl (pgs_cons (pg_name (i := 2) sc_check_row.nd rfl (Or.inl rfl)) (pgs_cons (pg_name (i := 3) sc_check_row.nd rfl (Or.inl rfl)) pgs_nil))) (pss_cons (ps_if (pt_not (pt_val (pe_callS (ok_is_bit (K := K) T) (hr.mono (by decide)) (by rfl) T.d_is_bit.g T.d_is_bit.F.kp T.d_is_bit.b (fun σ => passAt (takes_of rfl rfl rfl rfl) σ) (pa_cons (pv 3) pa_nil)))) (pss_cons (ps_raise rfl (takes_of rfl rfl rfl rfl) (pmk_oex T.x_BadRow.oex T.x_BadRow.iC T.x_BadRow.tI (ini_BadRow T) (hr.mono (by decide)) T.x_BadRow.b .nil passL (by rfl) T.x_BadRow.g (pa_cons (pv 2) pa_nil)))
  pss_nil) pss_nil)
  pss_nil))
  (pss_cons (ps_ret (pe_callTy (r := rTuple K) c_tuple (by rfl) T.z_tuple (by decide +kernel) (pa_cons (pv 0) pa_nil)))
  pss_nil))), ?_⟩
  intro a as _
  change BJ K _ [some (.dat (eD a.1)), some (.dat (eI a.2)), none, none] _ _ _ _ _
  refine fun g σ H D hA hm => x_ifS ?_
  refine f_joinT (fun (s : Bool) => [some (.dat (eD a.1)), some (.dat (eI a.2)), none, none]) (fun s => s) hA hm (fun hm => ?_) (fun j1 H hA hm => ?_)
  ·
    refine x_orT ?_
    refine (evb_not (evb_B (ev_isiT (d := a.1) .list .tuple (ev_var rfl) dpt_d))) _ _ _ _ _ hA fun H hA => ?_
    refine f_pick hm (fun hm => ?_) (fun hm => ?_)
    ·
      exact hm H hA
    ·
      refine x_test ?_
      refine x_op ?_
      refine x_cb1 ?_
      refine (ev_var rfl) _ _ _ _ _ hA fun v H hA => ?_
      refine f_o1m o1_lenD hA hm fun t2 v H hA hm => ?_
      refine (ev_var rfl) _ _ _ _ _ hA fun v H hA => ?_
      refine o2_neI _ _ _ _ _ _ _ hA fun v H hA => ?_
      refine f_tst (P := fun c H1 => _) hA fun hA => ?_
      exact hm H hA
  ·
    replace hA : At K g [some (.dat (eD a.1)), some (.dat (eI a.2)), none, none] _ _ _ := hA
    refine f_ifS hm (fun hm => ?_) (fun hm => ?_)
    ·
      refine bj_go hA hm ?_
      change BJ K _ [some (.dat (eD a.1)), some (.dat (eI a.2)), none, none] _ _ _ _ _
      refine bj_assoc ?_
      exact bj_raise1 (cn := "BadRow") (dv := (PyData.int (-(1 : Int)))) T.ec_BadRow T.x_BadRow.oex (T.x_BadRow.no _ (by decide)) rfl .nil (ev_box bx_i (ev_un ev_int o1_neg))
    ·
      refine bj_go hA hm ?_
      change BJ K _ [some (.dat (eD a.1)), some (.dat (eI a.2)), none, none] _ _ _ _ _
      refine bj_pass ?_
      refine fun g σ H D hA hm => ?_
      refine x_forE ?_
      refine (ev_var rfl) _ _ _ _ _ hA fun v H hA => ?_
      refine wk_enumD hA hm fun l3 hm => f_for (e := (eP2 eI eD)) (fun (s4 : Unit) => [some (.dat (eD a.1)), none, none, none]) (s0 := ()) (.s (.d (.d (.d .nil)))) hm (hb_of (e := (eP2 eI eD)) (js := [2, 3]) (ps := fun b5 => [eI b5.1, eD b5.2]) (fun b => (tj_tup (tjs_cons tj_name (tjs_cons tj_name tjs_nil)) rfl)) (hjl (n := 4) (fun s => rfl) (by decide)) (fun s4 b5 => ?_)) (fun s4 => ?_)
      ·
        change BJ K _ [some (.dat (eD a.1)), none, some (.dat (eI b5.1)), some (.dat (eD b5.2))] _ _ _ _ _
        refine fun g σ H D hA hm => x_ifS ?_
        refine x_not ?_
        refine x_B ?_
        refine x_call1 ?_
        refine (ev_var rfl) _ _ _ _ _ hA fun v H hA => ?_
        refine f_call [.d (eD b5.2)] b5.2 (fun r => []) hA rfl rfl True.intro (fun as h => match as, h with | [], _ => rfl) (fun _ => rfl) (fun r as h => match as, h with | [], _ => rfl) (fun r j z => nomatch z) .nil (hm.bindR.imp (fun r6 hm v H hA => ?_) fun _ q => q)
        refine f_tst (P := fun c H1 => _) hA fun hA => ?_
        refine f_ifS hm (fun hm => ?_) (fun hm => ?_)
        ·
          refine bj_go hA hm ?_
          change BJ K _ [some (.dat (eD a.1)), none, some (.dat (eI b5.1)), some (.dat (eD b5.2))] _ _ _ _ _
          refine bj_assoc ?_
          exact bj_raise1 (cn := "BadRow") (dv := (PyData.int b5.1)) T.ec_BadRow T.x_BadRow.oex (T.x_BadRow.no _ (by decide)) rfl .nil (ev_box bx_i (ev_var rfl))
        ·
          refine bj_go hA hm ?_
          change BJ K _ [some (.dat (eD a.1)), none, some (.dat (eI b5.1)), some (.dat (eD b5.2))] _ _ _ _ _
          refine bj_pass ?_
          exact bj_nx (a := ()) (.s (.d (.d (.d .nil))))
      ·
        change BJ K _ [some (.dat (eD a.1)), none, none, none] _ _ _ _ _
        refine fun g σ H D hA hm => x_ret ?_
        refine x_cb1 ?_
        refine (ev_var rfl) _ _ _ _ _ hA fun v H hA => ?_
        refine f_o1m o1_tupleD hA hm fun t7 v H hA hm => ?_
        refine f_ints hA hm fun t8 hA hm => ?_
        exact hm v H _ (hA.weak1 (.d (.d .nil)) fun j z => nomatch z)
theorem ok_checked_bits (T : Txt K mg Z) : FnOk P w K mg base (L2.CX P w) 5 Z.f_checked_bits Z.d_checked_bits ["bits"] (Spec K Z.ec 1 pre_checked_bits f_checked_bits post_checked_bits ret_checked_bits) := by
  refine fn_ok T.d_checked_bits.F sc_checked_bits rfl m_checked_bits fun cdv A outer s H E hr => ?_
  refine ⟨_, (pss_cons (ps_ret (pe_callS (ok_check_row (K := K) T) (hr.mono (by decide)) (by rfl) T.d_check_row.g T.d_check_row.F.kp T.d_check_row.b (fun σ => passAt (takes_of rfl rfl rfl rfl) σ) (pa_cons (pv 0) (pa_cons (pe_ifExp (pt_val (pe_callB (r := rIsiT K) call_isiT (by rfl) T.z_isinstance (by decide +kernel) (pa_cons (pv 0) (pa_cons (pe_tup (pa_cons (pe_bltn (v := .ty "list") (u := .type "list") (by rfl) T.z_list (by decide +kernel) rfl) (pa_cons (pe_bltn (v := .ty "tuple") (u := .type "tuple") (by rfl) T.z_tuple (by decide +kernel) rfl) pa_nil))) pa_nil)))) (pe_callB (r := rLen K) c_len (by rfl) T.z_len (by decide +kernel) (pa_cons (pv 0) pa_nil)) pe_int) pa_nil))))
  pss_nil), ?_⟩
  intro a as _
  change BJ K _ [some (.dat (eD a))] _ _ _ _ _
  refine fun g σ H D hA hm => x_ret ?_
  refine x_call2 ?_
  refine (ev_var rfl) _ _ _ _ _ hA fun v H hA => ?_
  refine f_joinV (fun (s : Int) => [some (.dat (eD a))]) (fun s => .dat (eI s)) hA hm (fun hm => ?_) (fun j1 v H hA hm => ?_)
  ·
    refine x_if ?_
    refine (evb_B (ev_isiT (d := a) .list .tuple (ev_var rfl) dpt_d)) _ _ _ _ _ hA fun H hA => ?_
    refine f_pick hm (fun hm => ?_) (fun hm => ?_)
    ·
      refine x_cb1 ?_
      refine (ev_var rfl) _ _ _ _ _ hA fun v H hA => ?_
      refine f_o1m o1_lenD hA hm fun t2 v H hA hm => ?_
      exact hm v H hA
    ·
      refine ev_int _ _ _ _ _ hA fun v H hA => ?_
      exact hm v H hA
  ·
    replace hA : At K g [some (.dat (eD a))] _ _ _ := hA
    refine f_call [.d (eD a), .d (eI j1)] (a, j1) (fun r => []) hA rfl rfl True.intro (fun as h => match as, h with | [], _ => rfl) (fun _ => rfl) (fun r as h => match as, h with | [], _ => rfl) (fun r j z => nomatch z) .nil (hm.bindR.imp (fun r3 hm v H hA => ?_) fun _ q => q)
    exact hm v H _ (hA.weak1 (.d .nil) fun j z => nomatch z)
theorem ok_delayed (T : Txt K mg Z) : FnOk P w K mg base (L2.CX P w) 6 Z.f_delayed Z.d_delayed ["bits", "d"] (Spec K Z.ec 2 pre_delayed f_delayed post_delayed ret_delayed) := by
  refine fn_ok T.d_delayed.F sc_delayed rfl m_delayed fun cdv A outer s H E hr => ?_
  refine ⟨_, (pss_cons (ps_set (i := 2) sc_delayed.nd rfl (Or.inl rfl) (pe_callS (ok_checked_bits (K := K) T) (hr.mono (by decide)) (by rfl) T.d_checked_bits.g T.d_checked_bits.F.kp T.d_checked_bits.b (fun σ => passAt (takes_of rfl rfl rfl rfl) σ) (pa_cons (pv 0) pa_nil)))
  (pss_cons (ps_if (pw_or (pt_not (pt_val (pe_callS (ok_is_whole (K := K) T) (hr.mono (by decide)) (by rfl) T.d_is_whole.g T.d_is_whole.F.kp T.d_is_whole.b (fun σ => passAt (takes_of rfl rfl rfl rfl) σ) (pa_cons (pv 1) pa_nil)))) (pw_or1 (pt_cmpR op_lt (pv 1) pe_int (nomark _)))).pt (pss_cons (ps_raise rfl (takes_of rfl rfl rfl rfl) (pmk_oex T.x_BadNumber.oex T.x_BadNumber.iC T.x_BadNumber.tI (ini_BadNumber T) (hr.mono (by decide)) T.x_BadNumber.b .nil passL (by rfl) T.x_BadNumber.g (pa_cons pe_str pa_nil)))
  pss_nil) pss_nil)
  (pss_cons (ps_set (i := 3) sc_delayed.nd rfl (Or.inl rfl) (pe_callB c_min2 (by rfl) T.z_min (by decide +kernel) (pa_cons (pv 1) (pa_cons (pe_callB (r := rLen K) c_len (by rfl) T.z_len (by decide +kernel) (pa_cons (pv 2) pa_nil)) pa_nil))))
  (pss_cons (ps_ret (pe_op (r := rCatA K) op_catA (pe_op (r := rRepA K) op_repA (pe_tup (pa_cons pe_int pa_nil)) (pv 3)) (pe_slice (r := rSlA K) sl_tupA (pv 2) po_none (po_some (pe_op op_sub (pe_callB (r := rLen K) c_len (by rfl) T.z_len (by decide +kernel) (pa_cons (pv 2) pa_nil)) (pv 3))))))
  pss_nil)))), ?_⟩
  intro a as _
  change BJ K _ [some (.dat (eD a.1)), some (.dat (eD a.2)), none, none] _ _ _ _ _
  refine fun g σ H D hA hm => x_asg ?_
  refine x_call1 ?_
  refine (ev_var rfl) _ _ _ _ _ hA fun v H hA => ?_
  refine f_call [.d (eD a.1)] a.1 (fun r => []) hA rfl rfl True.intro (fun as h => match as, h with | [], _ => rfl) (fun _ => rfl) (fun r as h => match as, h with | [], _ => rfl) (fun r j z => nomatch z) .nil (hm.bindR.imp (fun r1 hm v H hA => ?_) fun _ q => q)
  refine f_setgo hA (fun j z => nomatch z) rfl hm ?_
  change BJ K _ [some (.dat (eD a.1)), some (.dat (eD a.2)), some (.dat ((eT eI) r1)), none] _ _ _ _ _
  refine fun g σ H D hA hm => x_ifS ?_
  refine f_joinT (fun (s : Bool) => [some (.dat (eD a.1)), some (.dat (eD a.2)), some (.dat ((eT eI) r1)), none]) (fun s => s) hA hm (fun hm => ?_) (fun j2 H hA hm => ?_)
  ·
    refine x_orT ?_
    refine x_not ?_
    refine x_B ?_
    refine x_call1 ?_
    refine (ev_var rfl) _ _ _ _ _ hA fun v H hA => ?_
    refine f_call [.d (eD a.2)] a.2 (fun r => []) hA rfl rfl True.intro (fun as h => match as, h with | [], _ => rfl) (fun _ => rfl) (fun r as h => match as, h with | [], _ => rfl) (fun r j z => nomatch z) .nil (hm.bindR.imp (fun r3 hm v H hA => ?_) fun _ q => q)
    refine f_tst (P := fun c H1 => _) hA fun hA => ?_
    refine f_pick hm (fun hm => ?_) (fun hm => ?_)
    ·
      exact hm H hA
    ·
      refine x_test ?_
      refine x_op ?_
      refine (ev_var rfl) _ _ _ _ _ hA fun v H hA => ?_
      refine ev_int _ _ _ _ _ hA fun v H hA => ?_
      refine f_int1 hA hm fun t4 hA hm => ?_
      refine o2_c0 _ _ _ _ _ _ _ hA fun v H hA => ?_
      refine f_tst (P := fun c H1 => _) hA fun hA => ?_
      exact hm H hA
  ·
    replace hA : At K g [some (.dat (eD a.1)), some (.dat (eD a.2)), some (.dat ((eT eI) r1)), none] _ _ _ := hA
    refine f_ifS hm (fun hm => ?_) (fun hm => ?_)
    ·
      refine bj_go hA hm ?_
      change BJ K _ [some (.dat (eD a.1)), some (.dat (eD a.2)), some (.dat ((eT eI) r1)), none] _ _ _ _ _
      refine bj_assoc ?_
      exact bj_raise1 (cn := "BadNumber") (dv := (PyData.str ("d" : Str))) T.ec_BadNumber T.x_BadNumber.oex (T.x_BadNumber.no _ (by decide)) rfl .nil (ev_box bx_s ev_str)
    ·
      refine bj_go hA hm ?_
      change BJ K _ [some (.dat (eD a.1)), some (.dat (eD a.2)), some (.dat ((eT eI) r1)), none] _ _ _ _ _
      refine bj_pass ?_
      refine fun g σ H D hA hm => x_asg ?_
      refine x_cb2 ?_
      refine (ev_var rfl) _ _ _ _ _ hA fun v H hA => ?_
      refine f_int hA hm fun t5 hA hm => ?_
      refine (ev_cb1 (ev_var rfl) (o1_lenT r1 eI .t)) _ _ _ _ _ hA fun v H hA => ?_
      refine o2_min _ _ _ _ _ _ _ hA fun v H hA => ?_
      refine f_setlt (e := (minI t5 ((r1).length : Int))) (fun t => .dat (eI t)) hA (fun t j z => nomatch z) rfl hm (fun zeros_6 => ?_)
      change BJ K _ [some (.dat (eD a.1)), some (.dat (eD a.2)), some (.dat ((eT eI) r1)), some (.dat (eI zeros_6))] _ _ _ _ _
      refine fun g σ H D hA hm => x_ret ?_
      refine x_op ?_
      refine x_op ?_
      refine (ev_tup [eI (0 : Int)] (ea_cons ev_int ea_nil)) _ _ _ _ _ hA fun v H hA => ?_
      refine (ev_var rfl) _ _ _ _ _ hA fun v H hA => ?_
      refine f_o2m (o2_repA (xs := [(0 : Int)]) (e := eI)) hA hm fun t7 v H hA hm => ?_
      refine (ev_slice (ev_var rfl) evo_none (evo_some (ev_op (ev_cb1 (ev_var rfl) (o1_lenT r1 eI .t)) (ev_var rfl) o2_i0)) (o1_cutTT (xs := r1) (e := eI))) _ _ _ _ _ hA fun v H hA => ?_
      refine f_o2m (o2_catT (xs := t7) (ys := (cutL r1 none (some (((r1).length : Int) - zeros_6)))) (e := eI)) hA hm fun t8 v H hA hm => ?_
      exact hm v H _ (hA.weak1 (.d (.d .nil)) fun j z => nomatch z)
theorem ok_checked_clocks (T : Txt K mg Z) : FnOk P w K mg base (L2.CX P w) 3 Z.f_checked_clocks Z.d_checked_clocks ["row", "word"] (Spec K Z.ec 2 pre_checked_clocks f_checked_clocks post_checked_clocks ret_checked_clocks) := by
  refine fn_ok T.d_checked_clocks.F sc_checked_clocks rfl m_checked_clocks fun cdv A outer s H E hr => ?_
  refine ⟨_, (pss_cons (ps_if (pt_not (pt_val (pe_callB (r := rIsiT K) call_isiT (by rfl) T.z_isinstance (by decide +kernel) (pa_cons (pv 0) (pa_cons (pe_tup (pa_cons (pe_bltn (v := .ty "list") (u := .type "list") (by rfl) T.z_list (by decide +kernel) rfl) (pa_cons (pe_bltn (v := .ty "tuple") (u := .type "tuple") (by rfl) T.z_tuple (by decide +kernel) rfl) pa_nil))) pa_nil))))) (pss_cons (ps_raise rfl (takes_of rfl rfl rfl rfl) (pmk_oex T.x_BadNumber.oex T.x_BadNumber.iC T.x_BadNumber.tI (ini_BadNumber T) (hr.mono (by decide)) T.x_BadNumber.b .nil passL (by rfl) T.x_BadNumber.g (pa_cons (pv 1) pa_nil)))
  pss_nil) pss_nil)
  (pss_cons (ps_set (i := 2) sc_checked_clocks.nd rfl (Or.inl rfl) (pe_lst pa_nil))
  (pss_cons (ps_for (passes_of rfl) rfl (pi_seqV (pv 0)) (pg_name (i := 3) sc_checked_clocks.nd rfl (Or.inl rfl)) (pss_cons (ps_if (pw_or (pt_not (pt_val (pe_callB (r := rIsiT K) call_isiT (by rfl) T.z_isinstance (by decide +kernel) (pa_cons (pv 3) (pa_cons (pe_tup (pa_cons (pe_bltn (v := .ty "list") (u := .type "list") (by rfl) T.z_list (by decide +kernel) rfl) (pa_cons (pe_bltn (v := .ty "tuple") (u := .type "tuple") (by rfl) T.z_tuple (by decide +kernel) rfl) pa_nil))) pa_nil))))) (pw_or1 (pt_cmpR op_ne (pe_callB (r := rLen K) c_len (by rfl) T.z_len (by decide +kernel) (pa_cons (pv 3) pa_nil)) pe_int (nomark _)))).pt (pss_cons (ps_raise rfl (takes_of rfl rfl rfl rfl) (pmk_oex T.x_BadNumber.oex T.x_BadNumber.iC T.x_BadNumber.tI (ini_BadNumber T) (hr.mono (by decide)) T.x_BadNumber.b .nil passL (by rfl) T.x_BadNumber.g (pa_cons (pv 1) pa_nil)))
  pss_nil) pss_nil)
  (pss_cons (ps_asg (pv 3) (pg_seq rfl (pgs_cons (pg_name (i := 4) sc_checked_clocks.nd rfl (Or.inl rfl)) (pgs_cons (pg_name (i := 5) sc_checked_clocks.nd rfl (Or.inl rfl)) pgs_nil))))
  (pss_cons (ps_if (pw_or (pt_not (pt_val (pe_callB (r := rIsi K) call_isi (by rfl) T.z_isinstance (by decide +kernel) (pa_cons (pv 4) (pa_cons (pe_bltn (v := .ty "str") (u := .type "str") (by rfl) T.z_str (by decide +kernel) rfl) pa_nil))))) (pw_or (pt_cmpR (r := rIn K true) op_notIn_seq (pv 4) (pe_gk (by rfl) T.k_ROW_KINDS) rfl) (pw_or (pt_not (pt_val (pe_callS (ok_is_whole (K := K) T) (hr.mono (by decide)) (by rfl) T.d_is_whole.g T.d_is_whole.F.kp T.d_is_whole.b (fun σ => passAt (takes_of rfl rfl rfl rfl) σ) (pa_cons (pv 5) pa_nil)))) (pw_or1 (pt_cmpR op_lt (pv 5) pe_int (nomark _)))))).pt (pss_cons (ps_raise rfl (takes_of rfl rfl rfl rfl) (pmk_oex T.x_BadNumber.oex T.x_BadNumber.iC T.x_BadNumber.tI (ini_BadNumber T) (hr.mono (by decide)) T.x_BadNumber.b .nil passL (by rfl) T.x_BadNumber.g (pa_cons (pv 1) pa_nil)))
  pss_nil) pss_nil)
  (pss_cons (ps_expr (pe_bm PySem.F.plainAttrs_list PySem.F.slot_list_append PySem.F.type_list_append mt_append (pv 2) (pa_cons (pe_tup (pa_cons (pv 4) (pa_cons (pv 5) pa_nil))) pa_nil)))
  pss_nil)))))
  (pss_cons (ps_ret (pe_callTy (r := rTuple K) c_tuple (by rfl) T.z_tuple (by decide +kernel) (pa_cons (pv 2) pa_nil)))
  pss_nil)))), ?_⟩
  intro a as _
  change BJ K _ [some (.dat (eD a.1)), some (.dat (eS a.2)), none, none, none, none] _ _ _ _ _
  refine bj_ifL (evb_not (evb_B (ev_isiT (d := a.1) .list .tuple (ev_var rfl) dpt_d))) ?_ ?_
  ·
    refine bj_assoc ?_
    exact bj_raise1 (cn := "BadNumber") (dv := (PyData.str a.2)) T.ec_BadNumber T.x_BadNumber.oex (T.x_BadNumber.no _ (by decide)) rfl .nil (ev_box bx_s (ev_var rfl))
  ·
    refine bj_pass ?_
    refine fun g σ H D hA hm => x_asg ?_
    refine (ev_lst [] ea_nil) _ _ _ _ _ hA fun v H hA => ?_
    refine f_setlt (e := []) (fun t => .own none (.lst (List.map (eP2 eS eI) t))) hA (fun t j z => nomatch z) rfl hm (fun found_1 => ?_)
    change BJ K _ [some (.dat (eD a.1)), some (.dat (eS a.2)), some (.own none (.lst (List.map (eP2 eS eI) found_1))), none, none, none] _ _ _ _ _
    refine fun g σ H D hA hm => ?_
    refine x_forD ?_
    refine (ev_var rfl) _ _ _ _ _ hA fun v H hA => ?_
    refine wk_seq hA hm fun l2 hm => f_for (e := eD) (fun (s3 : (List (Str × Int))) => [none, some (.dat (eS a.2)), some (.own none (.lst (List.map (eP2 eS eI) s3))), none, none, none]) (s0 := found_1) (.d (.s (.s (.d (.d (.d .nil)))))) hm (hb_of (e := eD) (js := [3]) (ps := fun b4 => [eD b4]) (fun b => tj_name) (hjl (n := 6) (fun s => rfl) (by decide)) (fun s3 b4 => ?_)) (fun s3 => ?_)
    ·
      change BJ K _ [none, some (.dat (eS a.2)), some (.own none (.lst (List.map (eP2 eS eI) s3))), some (.dat (eD b4)), none, none] _ _ _ _ _
      refine fun g σ H D hA hm => x_ifS ?_
      refine f_joinT (fun (s : Bool) => [none, some (.dat (eS a.2)), some (.own none (.lst (List.map (eP2 eS eI) s3))), some (.dat (eD b4)), none, none]) (fun s => s) hA hm (fun hm => ?_) (fun j5 H hA hm => ?_)
      ·
        refine x_orT ?_
        refine (evb_not (evb_B (ev_isiT (d := b4) .list .tuple (ev_var rfl) dpt_d))) _ _ _ _ _ hA fun H hA => ?_
        refine f_pick hm (fun hm => ?_) (fun hm => ?_)
        ·
          exact hm H hA
        ·
          refine x_test ?_
          refine x_op ?_
          refine x_cb1 ?_
          refine (ev_var rfl) _ _ _ _ _ hA fun v H hA => ?_
          refine f_o1m o1_lenD hA hm fun t6 v H hA hm => ?_
          refine ev_int _ _ _ _ _ hA fun v H hA => ?_
          refine o2_neI _ _ _ _ _ _ _ hA fun v H hA => ?_
          refine f_tst (P := fun c H1 => _) hA fun hA => ?_
          exact hm H hA
      ·
        replace hA : At K g [none, some (.dat (eS a.2)), some (.own none (.lst (List.map (eP2 eS eI) s3))), some (.dat (eD b4)), none, none] _ _ _ := hA
        refine f_ifS hm (fun hm => ?_) (fun hm => ?_)
        ·
          refine bj_go hA hm ?_
          change BJ K _ [none, some (.dat (eS a.2)), some (.own none (.lst (List.map (eP2 eS eI) s3))), some (.dat (eD b4)), none, none] _ _ _ _ _
          refine bj_assoc ?_
          exact bj_raise1 (cn := "BadNumber") (dv := (PyData.str a.2)) T.ec_BadNumber T.x_BadNumber.oex (T.x_BadNumber.no _ (by decide)) rfl .nil (ev_box bx_s (ev_var rfl))
        ·
          refine bj_go hA hm ?_
          change BJ K _ [none, some (.dat (eS a.2)), some (.own none (.lst (List.map (eP2 eS eI) s3))), some (.dat (eD b4)), none, none] _ _ _ _ _
          refine bj_pass ?_
          refine fun g σ H D hA hm => x_asg ?_
          refine (ev_var rfl) _ _ _ _ _ hA fun v H hA => ?_
          refine f_unp2 hA hm fun q7 hA hm => ?_
          refine (tj_seq (qs := [eD q7.1, eD q7.2]) (tjs_cons tj_name (tjs_cons tj_name tjs_nil)) rfl).2 _ _ _ _ _ _ _ (hjl (sT := Unit) (Gl := fun _ => [none, some (.dat (eS a.2)), some (.own none (.lst (List.map (eP2 eS eI) s3))), some (.dat (eD b4)), none, none]) (js := [4, 5]) (n := 6) (fun _ => rfl) (by decide) ()) (by intro y hy; cases hy) hA fun vs H _ hA => ?_
          replace hA : At K g [none, some (.dat (eS a.2)), some (.own none (.lst (List.map (eP2 eS eI) s3))), some (.dat (eD b4)), some (.dat (eD q7.1)), some (.dat (eD q7.2))] _ _ _ := hA
          refine bj_go hA hm ?_
          refine fun g σ H D hA hm => x_ifS ?_
          refine f_joinT (fun (s : Bool) => [none, some (.dat (eS a.2)), some (.own none (.lst (List.map (eP2 eS eI) s3))), some (.dat (eD b4)), some (.dat (eD q7.1)), some (.dat (eD q7.2))]) (fun s => s) hA hm (fun hm => ?_) (fun j8 H hA hm => ?_)
          ·
            refine x_orT ?_
            refine (evb_not (evb_B (ev_isi (d := q7.1) .str (ev_var rfl) dpt_d))) _ _ _ _ _ hA fun H hA => ?_
            refine f_pick hm (fun hm => ?_) (fun hm => ?_)
            ·
              exact hm H hA
            ·
              refine x_orT ?_
              refine x_test ?_
              refine x_op ?_
              refine (ev_var rfl) _ _ _ _ _ hA fun v H hA => ?_
              refine (ev_gtup T.t_ROW_KINDS) _ _ _ _ _ hA fun v H hA => ?_
              refine f_str1 hA hm fun t9 hA hm => ?_
              refine (o2_ninS (xs := [("on" : Str), ("off" : Str)]) .t) _ _ _ _ _ _ _ hA fun v H hA => ?_
              refine f_tst (P := fun c H1 => _) hA fun hA => ?_
              refine f_pick hm (fun hm => ?_) (fun hm => ?_)
              ·
                exact hm H hA
              ·
                refine x_orT ?_
                refine x_not ?_
                refine x_B ?_
                refine x_call1 ?_
                refine (ev_var rfl) _ _ _ _ _ hA fun v H hA => ?_
                refine f_call [.d (eD q7.2)] q7.2 (fun r => []) hA rfl rfl True.intro (fun as h => match as, h with | [], _ => rfl) (fun _ => rfl) (fun r as h => match as, h with | [], _ => rfl) (fun r j z => nomatch z) .nil (hm.bindR.imp (fun r10 hm v H hA => ?_) fun _ q => q)
                refine f_tst (P := fun c H1 => _) hA fun hA => ?_
                refine f_pick hm (fun hm => ?_) (fun hm => ?_)
                ·
                  exact hm H hA
                ·
                  refine x_test ?_
                  refine x_op ?_
                  refine (ev_var rfl) _ _ _ _ _ hA fun v H hA => ?_
                  refine ev_int _ _ _ _ _ hA fun v H hA => ?_
                  refine f_int1 hA hm fun t11 hA hm => ?_
                  refine o2_c0 _ _ _ _ _ _ _ hA fun v H hA => ?_
                  refine f_tst (P := fun c H1 => _) hA fun hA => ?_
                  exact hm H hA
          ·
            replace hA : At K g [none, some (.dat (eS a.2)), some (.own none (.lst (List.map (eP2 eS eI) s3))), some (.dat (eD b4)), some (.dat (eD q7.1)), some (.dat (eD q7.2))] _ _ _ := hA
            refine f_ifS hm (fun hm => ?_) (fun hm => ?_)
            ·
              refine bj_go hA hm ?_
              change BJ K _ [none, some (.dat (eS a.2)), some (.own none (.lst (List.map (eP2 eS eI) s3))), some (.dat (eD b4)), some (.dat (eD q7.1)), some (.dat (eD q7.2))] _ _ _ _ _
              refine bj_assoc ?_
              exact bj_raise1 (cn := "BadNumber") (dv := (PyData.str a.2)) T.ec_BadNumber T.x_BadNumber.oex (T.x_BadNumber.no _ (by decide)) rfl .nil (ev_box bx_s (ev_var rfl))
            ·
              refine bj_go hA hm ?_
              change BJ K _ [none, some (.dat (eS a.2)), some (.own none (.lst (List.map (eP2 eS eI) s3))), some (.dat (eD b4)), some (.dat (eD q7.1)), some (.dat (eD q7.2))] _ _ _ _ _
              refine bj_pass ?_
              refine fun g σ H D hA hm => x_drop ?_
              refine x_app rfl hA fun x H hA => ?_
              refine x_tup ?_
              refine x_cons ?_
              refine (ev_var rfl) _ _ _ _ _ hA fun v H hA => ?_
              refine f_str hA hm fun t12 hA hm => ?_
              refine x_cons ?_
              refine (ev_var rfl) _ _ _ _ _ hA fun v H hA => ?_
              refine f_int hA hm fun t13 hA hm => ?_
              refine x_nil ?_
              refine f_tup (vs := [_, _]) [eS t12, eI t13] hA rfl (Nat.le_of_ble_eq_true rfl) fun v H hA => ?_
              refine f_appm (xs := s3) (e := (eP2 eS eI)) rfl hA hm fun ys14 H hA hm => ?_
              refine bj_go hA hm ?_
              change BJ K _ [none, some (.dat (eS a.2)), some (.own none (.lst (List.map (eP2 eS eI) ys14))), some (.dat (eD b4)), some (.dat (eD q7.1)), some (.dat (eD q7.2))] _ _ _ _ _
              exact bj_nx (a := ys14) (.d (.s (.s (.d (.d (.d .nil))))))
    ·
      change BJ K _ [none, some (.dat (eS a.2)), some (.own none (.lst (List.map (eP2 eS eI) s3))), none, none, none] _ _ _ _ _
      refine fun g σ H D hA hm => x_ret ?_
      refine (ev_cb1 (ev_own rfl) (o1_tuple (.l (.als rfl)))) _ _ _ _ _ hA fun v H hA => ?_
      exact hm v H _ (hA.weak1 (.d (.d .nil)) fun j z => nomatch z)
theorem ok_check_timer_row (T : Txt K mg Z) : FnOk P w K mg base (L2.CX P w) 4 Z.f_check_timer_row Z.d_check_timer_row ["row"] (Spec K Z.ec 1 pre_check_timer_row f_check_timer_row post_check_timer_row ret_check_timer_row) := by
  refine fn_okN T.d_check_timer_row.F sc_check_timer_row rfl m_check_timer_row (fun _ => rfl) fun cdv A outer s H E hr => ?_
  refine ⟨_, (pss_cons (ps_expr (pe_callS (ok_checked_clocks (K := K) T) (hr.mono (by decide)) (by rfl) T.d_checked_clocks.g T.d_checked_clocks.F.kp T.d_checked_clocks.b (fun σ => passAt (takes_of rfl rfl rfl rfl) σ) (pa_cons (pv 0) (pa_cons pe_str pa_nil))))
  pss_nil), ?_⟩
  intro a as _
  change BJ K _ [some (.dat (eD a))] _ _ _ _ _
  refine fun g σ H D hA hm => x_drop ?_
  refine x_call2 ?_
  refine (ev_var rfl) _ _ _ _ _ hA fun v H hA => ?_
  refine ev_str _ _ _ _ _ hA fun v H hA => ?_
  refine f_call [.d (eD a), .d (eS ("row" : Str))] (a, ("row" : Str)) (fun r => []) hA rfl rfl True.intro (fun as h => match as, h with | [], _ => rfl) (fun _ => rfl) (fun r as h => match as, h with | [], _ => rfl) (fun r j z => nomatch z) .nil (hm.bindR.imp (fun r1 hm v H hA => ?_) fun _ q => q)
  refine f_dropgo hA hm ?_
  change BJ K _ [some (.dat (eD a))] _ _ _ _ _
  exact bj_nx (a := ()) (.d .nil)
theorem ok_check_delay (T : Txt K mg Z) : FnOk P w K mg base (L2.CX P w) 3 Z.f_check_delay Z.d_check_delay ["delay", "word"] (Spec K Z.ec 2 pre_check_delay f_check_delay post_check_delay ret_check_delay) := by
  refine fn_okN T.d_check_delay.F sc_check_delay rfl m_check_delay (fun _ => rfl) fun cdv A outer s H E hr => ?_
  refine ⟨_, (pss_cons (ps_if (pw_or (pt_not (pt_val (pe_callS (ok_is_whole (K := K) T) (hr.mono (by decide)) (by rfl) T.d_is_whole.g T.d_is_whole.F.kp T.d_is_whole.b (fun σ => passAt (takes_of rfl rfl rfl rfl) σ) (pa_cons (pv 0) pa_nil)))) (pw_or1 (pt_cmpR op_lt (pv 0) pe_int (nomark _)))).pt (pss_cons (ps_raise rfl (takes_of rfl rfl rfl rfl) (pmk_oex T.x_BadNumber.oex T.x_BadNumber.iC T.x_BadNumber.tI (ini_BadNumber T) (hr.mono (by decide)) T.x_BadNumber.b .nil passL (by rfl) T.x_BadNumber.g (pa_cons (pv 1) pa_nil)))
  pss_nil) pss_nil)
  pss_nil), ?_⟩
  intro a as _
  change BJ K _ [some (.dat (eD a.1)), some (.dat (eS a.2))] _ _ _ _ _
  refine fun g σ H D hA hm => x_ifS ?_
  refine f_joinT (fun (s : Bool) => [some (.dat (eD a.1)), some (.dat (eS a.2))]) (fun s => s) hA hm (fun hm => ?_) (fun j1 H hA hm => ?_)
  ·
    refine x_orT ?_
    refine x_not ?_
    refine x_B ?_
    refine x_call1 ?_
    refine (ev_var rfl) _ _ _ _ _ hA fun v H hA => ?_
    refine f_call [.d (eD a.1)] a.1 (fun r => []) hA rfl rfl True.intro (fun as h => match as, h with | [], _ => rfl) (fun _ => rfl) (fun r as h => match as, h with | [], _ => rfl) (fun r j z => nomatch z) .nil (hm.bindR.imp (fun r2 hm v H hA => ?_) fun _ q => q)
    refine f_tst (P := fun c H1 => _) hA fun hA => ?_
    refine f_pick hm (fun hm => ?_) (fun hm => ?_)
    ·
      exact hm H hA
    ·
      refine x_test ?_
      refine x_op ?_
      refine (ev_var rfl) _ _ _ _ _ hA fun v H hA => ?_
      refine ev_int _ _ _ _ _ hA fun v H hA => ?_
      refine f_int1 hA hm fun t3 hA hm => ?_
      refine o2_c0 _ _ _ _ _ _ _ hA fun v H hA => ?_
      refine f_tst (P := fun c H1 => _) hA fun hA => ?_
      exact hm H hA
  ·
    replace hA : At K g [some (.dat (eD a.1)), some (.dat (eS a.2))] _ _ _ := hA
    refine f_ifS hm (fun hm => ?_) (fun hm => ?_)
    ·
      refine bj_go hA hm ?_
      change BJ K _ [some (.dat (eD a.1)), some (.dat (eS a.2))] _ _ _ _ _
      refine bj_assoc ?_
      exact bj_raise1 (cn := "BadNumber") (dv := (PyData.str a.2)) T.ec_BadNumber T.x_BadNumber.oex (T.x_BadNumber.no _ (by decide)) rfl .nil (ev_box bx_s (ev_var rfl))
    ·
      refine bj_go hA hm ?_
      change BJ K _ [some (.dat (eD a.1)), some (.dat (eS a.2))] _ _ _ _ _
      refine bj_pass ?_
      exact bj_nx (a := ()) (.d (.d .nil))
theorem ok_through_clock (T : Txt K mg Z) : FnOk P w K mg base (L2.CX P w) 1 Z.f_through_clock Z.d_through_clock ["kind", "number", "bits"] (Spec K Z.ec 3 pre_through_clock f_through_clock post_through_clock ret_through_clock) := by
  refine fn_ok T.d_through_clock.F sc_through_clock rfl m_through_clock fun cdv A outer s H E hr => ?_
  refine ⟨_, (pss_cons (ps_set (i := 3) sc_through_clock.nd rfl (Or.inl rfl) (pe_ifExp (pt_cmpR op_eq (pv 0) pe_str (nomark _)) pe_int pe_int))
  (pss_cons (ps_set (i := 4) sc_through_clock.nd rfl (Or.inl rfl) (pe_ifExp (pt_cmpR op_eq (pv 0) pe_str (nomark _)) pe_int (pv 1)))
  (pss_cons (ps_set (i := 5) sc_through_clock.nd rfl (Or.inl rfl) (pe_lst pa_nil))
  (pss_cons (ps_for (passes_of rfl) rfl (pi_tup (pv 2)) (pg_name (i := 6) sc_through_clock.nd rfl (Or.inl rfl)) (pss_cons (ps_set (i := 4) sc_through_clock.nd rfl (Or.inl rfl) (pe_ifExp (pt_cmpR op_eq (pv 6) (pv 3) (nomark _)) (pe_op op_add (pv 4) pe_int) pe_int))
  (pss_cons (ps_expr (pe_bm PySem.F.plainAttrs_list PySem.F.slot_list_append PySem.F.type_list_append mt_append (pv 5) (pa_cons (pe_ifExp (pt_cmpR op_gt (pv 4) (pv 1) (nomark _)) (pv 3) (pe_op op_sub pe_int (pv 3))) pa_nil)))
  pss_nil)))
  (pss_cons (ps_ret (pe_callTy (r := rTuple K) c_tuple (by rfl) T.z_tuple (by decide +kernel) (pa_cons (pv 5) pa_nil)))
  pss_nil))))), ?_⟩
  intro a as _
  change BJ K _ [some (.dat (eS a.1)), some (.dat (eI a.2.1)), some (.dat ((eT eI) a.2.2)), none, none, none, none] _ _ _ _ _
  refine fun g σ H D hA hm => x_asg ?_
  refine (ev_if (e := fun x => .dat (eI x)) (x := (1 : Int)) (y := (0 : Int)) (evb_test (ev_op (ev_var rfl) ev_str o2_eqS)) ev_int ev_int) _ _ _ _ _ hA fun v H hA => ?_
  refine f_setlt (e := (if (decide (a.1 = ("on" : Str))) then (1 : Int) else (0 : Int))) (fun t => .dat (eI t)) hA (fun t j z => nomatch z) rfl hm (fun wanted_1 => ?_)
  change BJ K _ [some (.dat (eS a.1)), some (.dat (eI a.2.1)), some (.dat ((eT eI) a.2.2)), some (.dat (eI wanted_1)), none, none, none] _ _ _ _ _
  refine fun g σ H D hA hm => x_asg ?_
  refine (ev_if (e := fun x => .dat (eI x)) (x := (0 : Int)) (y := a.2.1) (evb_test (ev_op (ev_var rfl) ev_str o2_eqS)) ev_int (ev_var rfl)) _ _ _ _ _ hA fun v H hA => ?_
  refine f_setlt (e := (if (decide (a.1 = ("on" : Str))) then (0 : Int) else a.2.1)) (fun t => .dat (eI t)) hA (fun t j z => nomatch z) rfl hm (fun run_2 => ?_)
  change BJ K _ [some (.dat (eS a.1)), some (.dat (eI a.2.1)), some (.dat ((eT eI) a.2.2)), some (.dat (eI wanted_1)), some (.dat (eI run_2)), none, none] _ _ _ _ _
  refine fun g σ H D hA hm => x_asg ?_
  refine (ev_lst [] ea_nil) _ _ _ _ _ hA fun v H hA => ?_
  refine f_setlt (e := []) (fun t => .own none (.lst (List.map eI t))) hA (fun t j z => nomatch z) rfl hm (fun found_3 => ?_)
  change BJ K _ [some (.dat (eS a.1)), some (.dat (eI a.2.1)), some (.dat ((eT eI) a.2.2)), some (.dat (eI wanted_1)), some (.dat (eI run_2)), some (.own none (.lst (List.map eI found_3))), none] _ _ _ _ _
  refine fun g σ H D hA hm => ?_
  refine x_forT ?_
  refine (ev_var rfl) _ _ _ _ _ hA fun v H hA => ?_
  refine wk_tup (xs := a.2.2) (e := eI) hA (f_for (e := eI) (fun (s4 : (Int × (List Int))) => [none, some (.dat (eI a.2.1)), none, some (.dat (eI wanted_1)), some (.dat (eI s4.1)), some (.own none (.lst (List.map eI s4.2))), none]) (s0 := (run_2, found_3)) (.d (.s (.d (.s (.s (.s (.d .nil))))))) hm (hb_of (e := eI) (js := [6]) (ps := fun b5 => [eI b5]) (fun b => tj_name) (hjl (n := 7) (fun s => rfl) (by decide)) (fun s4 b5 => ?_)) (fun s4 => ?_))
  ·
    change BJ K _ [none, some (.dat (eI a.2.1)), none, some (.dat (eI wanted_1)), some (.dat (eI s4.1)), some (.own none (.lst (List.map eI s4.2))), some (.dat (eI b5))] _ _ _ _ _
    refine fun g σ H D hA hm => x_asg ?_
    refine (ev_if (e := fun x => .dat (eI x)) (x := (s4.1 + (1 : Int))) (y := (0 : Int)) (evb_test (ev_op (ev_var rfl) (ev_var rfl) o2_eqI)) (ev_op (ev_var rfl) ev_int o2_i0) ev_int) _ _ _ _ _ hA fun v H hA => ?_
    refine f_setlt (e := (if (decide (b5 = wanted_1)) then (s4.1 + (1 : Int)) else (0 : Int))) (fun t => .dat (eI t)) hA (fun t j z => nomatch z) rfl hm (fun run_6 => ?_)
    change BJ K _ [none, some (.dat (eI a.2.1)), none, some (.dat (eI wanted_1)), some (.dat (eI run_6)), some (.own none (.lst (List.map eI s4.2))), some (.dat (eI b5))] _ _ _ _ _
    refine fun g σ H D hA hm => x_drop ?_
    refine x_app rfl hA fun x H hA => ?_
    refine (ev_if (e := fun x => .dat (eI x)) (x := wanted_1) (y := ((1 : Int) - wanted_1)) (evb_test (ev_op (ev_var rfl) (ev_var rfl) o2_c0)) (ev_var rfl) (ev_op ev_int (ev_var rfl) o2_i0)) _ _ _ _ _ hA fun v H hA => ?_
    refine f_appm (xs := s4.2) (e := eI) rfl hA hm fun ys7 H hA hm => ?_
    refine bj_go hA hm ?_
    change BJ K _ [none, some (.dat (eI a.2.1)), none, some (.dat (eI wanted_1)), some (.dat (eI run_6)), some (.own none (.lst (List.map eI ys7))), some (.dat (eI b5))] _ _ _ _ _
    exact bj_nx (a := (run_6, ys7)) (.d (.s (.d (.s (.s (.s (.d .nil)))))))
  ·
    change BJ K _ [none, some (.dat (eI a.2.1)), none, some (.dat (eI wanted_1)), some (.dat (eI s4.1)), some (.own none (.lst (List.map eI s4.2))), none] _ _ _ _ _
    refine fun g σ H D hA hm => x_ret ?_
    refine (ev_cb1 (ev_own rfl) (o1_tuple (.l (.als rfl)))) _ _ _ _ _ hA fun v H hA => ?_
    exact hm v H _ (hA.weak1 (.d (.d (.d .nil))) fun j z => nomatch z)
theorem ok_row_bits (T : Txt K mg Z) : FnOk P w K mg base (L2.CX P w) 7 Z.f_row_bits Z.d_row_bits ["row", "bits", "delay"] (Spec K Z.ec 3 pre_row_bits f_row_bits post_row_bits ret_row_bits) := by
  refine fn_ok T.d_row_bits.F sc_row_bits rfl m_row_bits fun cdv A outer s H E hr => ?_
  refine ⟨_, (pss_cons (ps_set (i := 3) sc_row_bits.nd rfl (Or.inl rfl) (pe_callS (ok_checked_clocks (K := K) T) (hr.mono (by decide)) (by rfl) T.d_checked_clocks.g T.d_checked_clocks.F.kp T.d_checked_clocks.b (fun σ => passAt (takes_of rfl rfl rfl rfl) σ) (pa_cons (pv 0) (pa_cons pe_str pa_nil))))
  (pss_cons (ps_set (i := 4) sc_row_bits.nd rfl (Or.inl rfl) (pe_callS (ok_checked_bits (K := K) T) (hr.mono (by decide)) (by rfl) T.d_checked_bits.g T.d_checked_bits.F.kp T.d_checked_bits.b (fun σ => passAt (takes_of rfl rfl rfl rfl) σ) (pa_cons (pv 1) pa_nil)))
  (pss_cons (ps_expr (pe_callS (ok_check_delay (K := K) T) (hr.mono (by decide)) (by rfl) T.d_check_delay.g T.d_check_delay.F.kp T.d_check_delay.b (fun σ => passAt (takes_of rfl rfl rfl rfl) σ) (pa_cons (pv 2) (pa_cons pe_str pa_nil))))
  (pss_cons (ps_for (passes_of rfl) rfl (pi_tup (pv 3)) (pg_tup rfl (pgs_cons (pg_name (i := 5) sc_row_bits.nd rfl (Or.inl rfl)) (pgs_cons (pg_name (i := 6) sc_row_bits.nd rfl (Or.inl rfl)) pgs_nil))) (pss_cons (ps_set (i := 4) sc_row_bits.nd rfl (Or.inl rfl) (pe_callS (ok_through_clock (K := K) T) (hr.mono (by decide)) (by rfl) T.d_through_clock.g T.d_through_clock.F.kp T.d_through_clock.b (fun σ => passAt (takes_of rfl rfl rfl rfl) σ) (pa_cons (pv 5) (pa_cons (pv 6) (pa_cons (pv 4) pa_nil)))))
  pss_nil))
  (pss_cons (ps_ret (pe_callS (ok_delayed (K := K) T) (hr.mono (by decide)) (by rfl) T.d_delayed.g T.d_delayed.F.kp T.d_delayed.b (fun σ => passAt (takes_of rfl rfl rfl rfl) σ) (pa_cons (pv 4) (pa_cons (pv 2) pa_nil))))
  pss_nil))))), ?_⟩
  intro a as _
  change BJ K _ [some (.dat (eD a.1)), some (.dat (eD a.2.1)), some (.dat (eD a.2.2)), none, none, none, none] _ _ _ _ _
  refine fun g σ H D hA hm => x_asg ?_
  refine x_call2 ?_
  refine (ev_var rfl) _ _ _ _ _ hA fun v H hA => ?_
  refine ev_str _ _ _ _ _ hA fun v H hA => ?_
  refine f_call [.d (eD a.1), .d (eS ("row" : Str))] (a.1, ("row" : Str)) (fun r => []) hA rfl rfl True.intro (fun as h => match as, h with | [], _ => rfl) (fun _ => rfl) (fun r as h => match as, h with | [], _ => rfl) (fun r j z => nomatch z) .nil (hm.bindR.imp (fun r1 hm v H hA => ?_) fun _ q => q)
  refine f_setgo hA (fun j z => nomatch z) rfl hm ?_
  change BJ K _ [some (.dat (eD a.1)), some (.dat (eD a.2.1)), some (.dat (eD a.2.2)), some (.dat ((eT (eP2 eS eI)) r1)), none, none, none] _ _ _ _ _
  refine fun g σ H D hA hm => x_asg ?_
  refine x_call1 ?_
  refine (ev_var rfl) _ _ _ _ _ hA fun v H hA => ?_
  refine f_call [.d (eD a.2.1)] a.2.1 (fun r => []) hA rfl rfl True.intro (fun as h => match as, h with | [], _ => rfl) (fun _ => rfl) (fun r as h => match as, h with | [], _ => rfl) (fun r j z => nomatch z) .nil (hm.bindR.imp (fun r2 hm v H hA => ?_) fun _ q => q)
  refine f_setgo hA (fun j z => nomatch z) rfl hm ?_
  change BJ K _ [some (.dat (eD a.1)), some (.dat (eD a.2.1)), some (.dat (eD a.2.2)), some (.dat ((eT (eP2 eS eI)) r1)), some (.dat ((eT eI) r2)), none, none] _ _ _ _ _
  refine fun g σ H D hA hm => x_drop ?_
  refine x_call2 ?_
  refine (ev_var rfl) _ _ _ _ _ hA fun v H hA => ?_
  refine ev_str _ _ _ _ _ hA fun v H hA => ?_
  refine f_call [.d (eD a.2.2), .d (eS ("delay" : Str))] (a.2.2, ("delay" : Str)) (fun r => []) hA rfl rfl True.intro (fun as h => match as, h with | [], _ => rfl) (fun _ => rfl) (fun r as h => match as, h with | [], _ => rfl) (fun r j z => nomatch z) .nil (hm.bindR.imp (fun r3 hm v H hA => ?_) fun _ q => q)
  refine f_dropgo hA hm ?_
  change BJ K _ [some (.dat (eD a.1)), some (.dat (eD a.2.1)), some (.dat (eD a.2.2)), some (.dat ((eT (eP2 eS eI)) r1)), some (.dat ((eT eI) r2)), none, none] _ _ _ _ _
  refine fun g σ H D hA hm => ?_
  refine x_forT ?_
  refine (ev_var rfl) _ _ _ _ _ hA fun v H hA => ?_
  refine wk_tup (xs := r1) (e := (eP2 eS eI)) hA (f_for (e := (eP2 eS eI)) (fun (s4 : (List Int)) => [none, none, some (.dat (eD a.2.2)), none, some (.dat ((eT eI) s4)), none, none]) (s0 := r2) (.d (.d (.s (.d (.s (.d (.d .nil))))))) hm (hb_of (e := (eP2 eS eI)) (js := [5, 6]) (ps := fun b5 => [eS b5.1, eI b5.2]) (fun b => (tj_tup (tjs_cons tj_name (tjs_cons tj_name tjs_nil)) rfl)) (hjl (n := 7) (fun s => rfl) (by decide)) (fun s4 b5 => ?_)) (fun s4 => ?_))
  ·
    change BJ K _ [none, none, some (.dat (eD a.2.2)), none, some (.dat ((eT eI) s4)), some (.dat (eS b5.1)), some (.dat (eI b5.2))] _ _ _ _ _
    refine fun g σ H D hA hm => x_asg ?_
    refine x_call3 ?_
    refine (ev_var rfl) _ _ _ _ _ hA fun v H hA => ?_
    refine (ev_var rfl) _ _ _ _ _ hA fun v H hA => ?_
    refine (ev_var rfl) _ _ _ _ _ hA fun v H hA => ?_
    refine f_call [.d (eS b5.1), .d (eI b5.2), .d ((eT eI) s4)] (b5.1, b5.2, s4) (fun r => []) hA rfl rfl True.intro (fun as h => match as, h with | [], _ => rfl) (fun _ => rfl) (fun r as h => match as, h with | [], _ => rfl) (fun r j z => nomatch z) .nil (hm.bindR.imp (fun r6 hm v H hA => ?_) fun _ q => q)
    refine f_setgo hA (fun j z => nomatch z) rfl hm ?_
    change BJ K _ [none, none, some (.dat (eD a.2.2)), none, some (.dat ((eT eI) r6)), some (.dat (eS b5.1)), some (.dat (eI b5.2))] _ _ _ _ _
    exact bj_nx (a := r6) (.d (.d (.s (.d (.s (.d (.d .nil)))))))
  ·
    change BJ K _ [none, none, some (.dat (eD a.2.2)), none, some (.dat ((eT eI) s4)), none, none] _ _ _ _ _
    refine fun g σ H D hA hm => x_ret ?_
    refine x_call2 ?_
    refine (ev_var rfl) _ _ _ _ _ hA fun v H hA => ?_
    replace hA := hA.box (Bx.hd (x := s4) (bx_t bx_i))
    refine (ev_var rfl) _ _ _ _ _ hA fun v H hA => ?_
    refine f_call [.d (eD ((dT PyData.int) s4)), .d (eD a.2.2)] (((dT PyData.int) s4), a.2.2) (fun r => []) hA rfl rfl True.intro (fun as h => match as, h with | [], _ => rfl) (fun _ => rfl) (fun r as h => match as, h with | [], _ => rfl) (fun r j z => nomatch z) .nil (hm.bindR.imp (fun r7 hm v H hA => ?_) fun _ q => q)
    exact hm v H _ (hA.weak1 (.d (.d (.d .nil))) fun j z => nomatch z)
theorem ok_rule_here (T : Txt K mg Z) : FnOk P w K mg base (L2.CX P w) 1 Z.f_rule_here Z.d_rule_here ["clocks", "place"] (Spec K Z.ec 2 pre_rule_here f_rule_here post_rule_here ret_rule_here) := by
  refine fn_ok T.d_rule_here.F sc_rule_here rfl m_rule_here fun cdv A outer s H E hr => ?_
  refine ⟨_, (pss_cons (ps_set (i := 2) sc_rule_here.nd rfl (Or.inl rfl) (pe_slice (r := rSlA K) sl_tupA (pv 0) (po_some (pv 1)) (po_some (pe_op op_add (pv 1) pe_int))))
  (pss_cons (ps_setLc (i := 3) (own := [("clock", 5)]) (g := gName 5) rfl sc_rule_here.nd rfl rfl (sw_true rfl rfl rfl (by decide +kernel)) (pi_tup (pv 2)) (blkOk_by (N := ["clocks", "place", "here", "kinds", "numbers", "clock"]) (sc := defScope st_rule_here) (by decide +kernel)) (fun _ _ _ _ _ => (pg_name (i := 5) sc_rule_here.nd rfl (Or.inl rfl))) (fun _ _ _ _ _ => pts_nil) (fun _ _ _ _ _ => (pe_ix (r := rIxT K) ix_tup (pv 5) pe_int (fun _ _ => rfl))))
  (pss_cons (ps_setLc (i := 4) (own := [("clock", 5)]) (g := gName 5) rfl sc_rule_here.nd rfl rfl (sw_true rfl rfl rfl (by decide +kernel)) (pi_tup (pv 2)) (blkOk_by (N := ["clocks", "place", "here", "kinds", "numbers", "clock"]) (sc := defScope st_rule_here) (by decide +kernel)) (fun _ _ _ _ _ => (pg_name (i := 5) sc_rule_here.nd rfl (Or.inl rfl))) (fun _ _ _ _ _ => pts_nil) (fun _ _ _ _ _ => (pe_ix (r := rIxT K) ix_tup (pv 5) pe_int (fun _ _ => rfl))))
  (pss_cons (ps_if (pt_cmpR op_eq (pe_ix (r := rIxL K) ix_list (pv 4) pe_int (fun _ _ => rfl)) pe_int (nomark _)) (pss_cons (ps_ret pe_str)
  pss_nil) pss_nil)
  (pss_cons (ps_if (pw_and (pt_cmpR op_gt (pe_callB (r := rLen K) c_len (by rfl) T.z_len (by decide +kernel) (pa_cons (pv 2) pa_nil)) pe_int (nomark _)) (pw_and1 (pt_cmpR op_eq (pe_ix (r := rIxL K) ix_list (pv 3) pe_int (fun _ _ => rfl)) (pe_ix (r := rIxL K) ix_list (pv 3) pe_int (fun _ _ => rfl)) (nomark _)))).pt (pss_cons (ps_ret pe_str)
  pss_nil) pss_nil)
  (pss_cons (ps_if (pw_or (pt_cmpR op_lt (pe_callB (r := rLen K) c_len (by rfl) T.z_len (by decide +kernel) (pa_cons (pv 2) pa_nil)) pe_int (nomark _)) (pw_or (pt_cmpR op_eq (pe_ix (r := rIxL K) ix_list (pv 3) pe_int (fun _ _ => rfl)) (pe_ix (r := rIxL K) ix_list (pv 3) pe_int (fun _ _ => rfl)) (nomark _)) (pw_or1 (pt_cmpR op_gt (pe_ix (r := rIxL K) ix_list (pv 4) pe_int (fun _ _ => rfl)) (pe_ix (r := rIxL K) ix_list (pv 4) pe_int (fun _ _ => rfl)) (nomark _))))).pt (pss_cons (ps_ret pe_str)
  pss_nil) pss_nil)
  (pss_cons (ps_ret (pe_ifExp (pt_cmpR op_le (pe_ix (r := rIxL K) ix_list (pv 4) pe_int (fun _ _ => rfl)) (pe_ix (r := rIxL K) ix_list (pv 4) pe_int (fun _ _ => rfl)) (nomark _)) pe_str pe_str))
  pss_nil))))))), ?_⟩
  intro a as _
  change BJ K _ [some (.dat ((eT (eP2 eS eI)) a.1)), some (.dat (eI a.2)), none, none, none, none] _ _ _ _ _
  refine fun g σ H D hA hm => x_asg ?_
  refine (ev_slice (ev_var rfl) (evo_some (ev_var rfl)) (evo_some (ev_op (ev_var rfl) ev_int o2_i0)) (o1_cutTT (xs := a.1) (e := (eP2 eS eI)))) _ _ _ _ _ hA fun v H hA => ?_
  refine f_setlt (e := (cutL a.1 (some a.2) (some (a.2 + (3 : Int))))) (fun t => .dat ((eT (eP2 eS eI)) t)) hA (fun t j z => nomatch z) rfl hm (fun here_1 => ?_)
  change BJ K _ [some (.dat ((eT (eP2 eS eI)) a.1)), some (.dat (eI a.2)), some (.dat ((eT (eP2 eS eI)) here_1)), none, none, none] _ _ _ _ _
  refine fun g σ H D hA hm => x_asg ?_
  refine x_lcT ?_
  refine (ev_var rfl) _ _ _ _ _ hA fun v H hA => ?_
  refine wk_tup (xs := here_1) (e := (eP2 eS eI)) hA (f_lcW (e := (eP2 eS eI)) (enc := eS) (js := [5]) (ps := fun b2 => [(eP2 eS eI) b2]) (fun (s3 : Unit) => [some (.dat ((eT (eP2 eS eI)) a.1)), some (.dat (eI a.2)), some (.dat ((eT (eP2 eS eI)) here_1)), none, none, none]) (()) (fun b => tj_name) (by decide) (hnl fun s => rfl) (hnl fun s => rfl) (by decide) (lj_fwd fun s3 b2 g σ τ H Q Qn hA hm => ?_) hm (fun r4 v H hA hm => ?_))
  ·
    replace hA : At K g [some (.dat ((eT (eP2 eS eI)) a.1)), some (.dat (eI a.2)), some (.dat ((eT (eP2 eS eI)) here_1)), none, none, some (.dat ((eP2 eS eI) b2))] _ _ _ := hA
    refine x_yes ?_
    refine (ev_op (ev_var rfl) ev_int (o2_ixK (p := eS b2.1))) _ _ _ _ _ hA fun v H hA => ?_
    exact hm v H hA
  ·
    replace hA : At K g [some (.dat ((eT (eP2 eS eI)) a.1)), some (.dat (eI a.2)), some (.dat ((eT (eP2 eS eI)) here_1)), none, none, none] _ _ _ := hA
    replace hA := hA.frz
    refine f_setgo hA (fun j z => nomatch z) rfl hm ?_
    change BJ K _ [some (.dat ((eT (eP2 eS eI)) a.1)), some (.dat (eI a.2)), some (.dat ((eT (eP2 eS eI)) here_1)), some (.dat ((eL eS) r4.2)), none, none] _ _ _ _ _
    refine fun g σ H D hA hm => x_asg ?_
    refine x_lcT ?_
    refine (ev_var rfl) _ _ _ _ _ hA fun v H hA => ?_
    refine wk_tup (xs := here_1) (e := (eP2 eS eI)) hA (f_lcW (e := (eP2 eS eI)) (enc := eI) (js := [5]) (ps := fun b5 => [(eP2 eS eI) b5]) (fun (s6 : Unit) => [some (.dat ((eT (eP2 eS eI)) a.1)), some (.dat (eI a.2)), some (.dat ((eT (eP2 eS eI)) here_1)), some (.dat ((eL eS) r4.2)), none, none]) (()) (fun b => tj_name) (by decide) (hnl fun s => rfl) (hnl fun s => rfl) (by decide) (lj_fwd fun s6 b5 g σ τ H Q Qn hA hm => ?_) hm (fun r7 v H hA hm => ?_))
    ·
      replace hA : At K g [some (.dat ((eT (eP2 eS eI)) a.1)), some (.dat (eI a.2)), some (.dat ((eT (eP2 eS eI)) here_1)), some (.dat ((eL eS) r4.2)), none, some (.dat ((eP2 eS eI) b5))] _ _ _ := hA
      refine x_yes ?_
      refine (ev_op (ev_var rfl) ev_int (o2_ixK (p := eI b5.2))) _ _ _ _ _ hA fun v H hA => ?_
      exact hm v H hA
    ·
      replace hA : At K g [some (.dat ((eT (eP2 eS eI)) a.1)), some (.dat (eI a.2)), some (.dat ((eT (eP2 eS eI)) here_1)), some (.dat ((eL eS) r4.2)), none, none] _ _ _ := hA
      replace hA := hA.frz
      refine f_setgo hA (fun j z => nomatch z) rfl hm ?_
      change BJ K _ [some (.dat ((eT (eP2 eS eI)) a.1)), some (.dat (eI a.2)), some (.dat ((eT (eP2 eS eI)) here_1)), some (.dat ((eL eS) r4.2)), some (.dat ((eL eI) r7.2)), none] _ _ _ _ _
      refine fun g σ H D hA hm => x_ifS ?_
      refine x_test ?_
      refine x_op ?_
      refine x_op ?_
      refine (ev_var rfl) _ _ _ _ _ hA fun v H hA => ?_
      refine ev_int _ _ _ _ _ hA fun v H hA => ?_
      refine f_o2m (o2_idxL (xs := r7.2) (e := eI) .dat) hA hm fun t8 v H hA hm => ?_
      refine ev_int _ _ _ _ _ hA fun v H hA => ?_
      refine o2_eqI _ _ _ _ _ _ _ hA fun v H hA => ?_
      refine f_tst (P := fun c H1 => _) hA fun hA => ?_
      refine f_ifS hm (fun hm => ?_) (fun hm => ?_)
      ·
        refine bj_go hA hm ?_
        change BJ K _ [some (.dat ((eT (eP2 eS eI)) a.1)), some (.dat (eI a.2)), some (.dat ((eT (eP2 eS eI)) here_1)), some (.dat ((eL eS) r4.2)), some (.dat ((eL eI) r7.2)), none] _ _ _ _ _
        refine bj_assoc ?_
        refine fun g σ H D hA hm => x_ret ?_
        refine ev_str _ _ _ _ _ hA fun v H hA => ?_
        exact hm v H _ (hA.weak1 (.d (.d .nil)) fun j z => nomatch z)
      ·
        refine bj_go hA hm ?_
        change BJ K _ [some (.dat ((eT (eP2 eS eI)) a.1)), some (.dat (eI a.2)), some (.dat ((eT (eP2 eS eI)) here_1)), some (.dat ((eL eS) r4.2)), some (.dat ((eL eI) r7.2)), none] _ _ _ _ _
        refine bj_pass ?_
        refine fun g σ H D hA hm => x_ifS ?_
        refine f_joinT (fun (s : Bool) => [some (.dat ((eT (eP2 eS eI)) a.1)), some (.dat (eI a.2)), some (.dat ((eT (eP2 eS eI)) here_1)), some (.dat ((eL eS) r4.2)), some (.dat ((eL eI) r7.2)), none]) (fun s => s) hA hm (fun hm => ?_) (fun j9 H hA hm => ?_)
        ·
          refine x_andT ?_
          refine (evb_test (ev_op (ev_cb1 (ev_var rfl) (o1_lenT here_1 (eP2 eS eI) .t)) ev_int o2_c0)) _ _ _ _ _ hA fun H hA => ?_
          refine f_pick hm (fun hm => ?_) (fun hm => ?_)
          ·
            refine x_test ?_
            refine x_op ?_
            refine x_op ?_
            refine (ev_var rfl) _ _ _ _ _ hA fun v H hA => ?_
            refine ev_int _ _ _ _ _ hA fun v H hA => ?_
            refine f_o2m (o2_idxL (xs := r4.2) (e := eS) .dat) hA hm fun t10 v H hA hm => ?_
            refine x_op ?_
            refine (ev_var rfl) _ _ _ _ _ hA fun v H hA => ?_
            refine ev_int _ _ _ _ _ hA fun v H hA => ?_
            refine f_o2m (o2_idxL (xs := r4.2) (e := eS) .dat) hA hm fun t11 v H hA hm => ?_
            refine o2_eqS _ _ _ _ _ _ _ hA fun v H hA => ?_
            refine f_tst (P := fun c H1 => _) hA fun hA => ?_
            exact hm H hA
          ·
            exact hm H hA
        ·
          replace hA : At K g [some (.dat ((eT (eP2 eS eI)) a.1)), some (.dat (eI a.2)), some (.dat ((eT (eP2 eS eI)) here_1)), some (.dat ((eL eS) r4.2)), some (.dat ((eL eI) r7.2)), none] _ _ _ := hA
          refine f_ifS hm (fun hm => ?_) (fun hm => ?_)
          ·
            refine bj_go hA hm ?_
            change BJ K _ [some (.dat ((eT (eP2 eS eI)) a.1)), some (.dat (eI a.2)), some (.dat ((eT (eP2 eS eI)) here_1)), some (.dat ((eL eS) r4.2)), some (.dat ((eL eI) r7.2)), none] _ _ _ _ _
            refine bj_assoc ?_
            refine fun g σ H D hA hm => x_ret ?_
            refine ev_str _ _ _ _ _ hA fun v H hA => ?_
            exact hm v H _ (hA.weak1 (.d (.d .nil)) fun j z => nomatch z)
          ·
            refine bj_go hA hm ?_
            change BJ K _ [some (.dat ((eT (eP2 eS eI)) a.1)), some (.dat (eI a.2)), some (.dat ((eT (eP2 eS eI)) here_1)), some (.dat ((eL eS) r4.2)), some (.dat ((eL eI) r7.2)), none] _ _ _ _ _
            refine bj_pass ?_
            refine fun g σ H D hA hm => x_ifS ?_
            refine f_joinT (fun (s : Bool) => [some (.dat ((eT (eP2 eS eI)) a.1)), some (.dat (eI a.2)), some (.dat ((eT (eP2 eS eI)) here_1)), some (.dat ((eL eS) r4.2)), some (.dat ((eL eI) r7.2)), none]) (fun s => s) hA hm (fun hm => ?_) (fun j12 H hA hm => ?_)
            ·
              refine x_orT ?_
              refine (evb_test (ev_op (ev_cb1 (ev_var rfl) (o1_lenT here_1 (eP2 eS eI) .t)) ev_int o2_c0)) _ _ _ _ _ hA fun H hA => ?_
              refine f_pick hm (fun hm => ?_) (fun hm => ?_)
              ·
                exact hm H hA
              ·
                refine x_orT ?_
                refine x_test ?_
                refine x_op ?_
                refine x_op ?_
                refine (ev_var rfl) _ _ _ _ _ hA fun v H hA => ?_
                refine ev_int _ _ _ _ _ hA fun v H hA => ?_
                refine f_o2m (o2_idxL (xs := r4.2) (e := eS) .dat) hA hm fun t13 v H hA hm => ?_
                refine x_op ?_
                refine (ev_var rfl) _ _ _ _ _ hA fun v H hA => ?_
                refine ev_int _ _ _ _ _ hA fun v H hA => ?_
                refine f_o2m (o2_idxL (xs := r4.2) (e := eS) .dat) hA hm fun t14 v H hA hm => ?_
                refine o2_eqS _ _ _ _ _ _ _ hA fun v H hA => ?_
                refine f_tst (P := fun c H1 => _) hA fun hA => ?_
                refine f_pick hm (fun hm => ?_) (fun hm => ?_)
                ·
                  exact hm H hA
                ·
                  refine x_test ?_
                  refine x_op ?_
                  refine x_op ?_
                  refine (ev_var rfl) _ _ _ _ _ hA fun v H hA => ?_
                  refine ev_int _ _ _ _ _ hA fun v H hA => ?_
                  refine f_o2m (o2_idxL (xs := r7.2) (e := eI) .dat) hA hm fun t15 v H hA hm => ?_
                  refine x_op ?_
                  refine (ev_var rfl) _ _ _ _ _ hA fun v H hA => ?_
                  refine ev_int _ _ _ _ _ hA fun v H hA => ?_
                  refine f_o2m (o2_idxL (xs := r7.2) (e := eI) .dat) hA hm fun t16 v H hA hm => ?_
                  refine o2_c0 _ _ _ _ _ _ _ hA fun v H hA => ?_
                  refine f_tst (P := fun c H1 => _) hA fun hA => ?_
                  exact hm H hA
            ·
              replace hA : At K g [some (.dat ((eT (eP2 eS eI)) a.1)), some (.dat (eI a.2)), some (.dat ((eT (eP2 eS eI)) here_1)), some (.dat ((eL eS) r4.2)), some (.dat ((eL eI) r7.2)), none] _ _ _ := hA
              refine f_ifS hm (fun hm => ?_) (fun hm => ?_)
              ·
                refine bj_go hA hm ?_
                change BJ K _ [some (.dat ((eT (eP2 eS eI)) a.1)), some (.dat (eI a.2)), some (.dat ((eT (eP2 eS eI)) here_1)), some (.dat ((eL eS) r4.2)), some (.dat ((eL eI) r7.2)), none] _ _ _ _ _
                refine bj_assoc ?_
                refine fun g σ H D hA hm => x_ret ?_
                refine ev_str _ _ _ _ _ hA fun v H hA => ?_
                exact hm v H _ (hA.weak1 (.d (.d .nil)) fun j z => nomatch z)
              ·
                refine bj_go hA hm ?_
                change BJ K _ [some (.dat ((eT (eP2 eS eI)) a.1)), some (.dat (eI a.2)), some (.dat ((eT (eP2 eS eI)) here_1)), some (.dat ((eL eS) r4.2)), some (.dat ((eL eI) r7.2)), none] _ _ _ _ _
                refine bj_pass ?_
                refine fun g σ H D hA hm => x_ret ?_
                refine f_joinV (fun (s : Str) => [some (.dat ((eT (eP2 eS eI)) a.1)), some (.dat (eI a.2)), some (.dat ((eT (eP2 eS eI)) here_1)), some (.dat ((eL eS) r4.2)), some (.dat ((eL eI) r7.2)), none]) (fun s => .dat (eS s)) hA hm (fun hm => ?_) (fun j17 v H hA hm => ?_)
                ·
                  refine x_if ?_
                  refine x_test ?_
                  refine x_op ?_
                  refine x_op ?_
                  refine (ev_var rfl) _ _ _ _ _ hA fun v H hA => ?_
                  refine ev_int _ _ _ _ _ hA fun v H hA => ?_
                  refine f_o2m (o2_idxL (xs := r7.2) (e := eI) .dat) hA hm fun t18 v H hA hm => ?_
                  refine x_op ?_
                  refine (ev_var rfl) _ _ _ _ _ hA fun v H hA => ?_
                  refine ev_int _ _ _ _ _ hA fun v H hA => ?_
                  refine f_o2m (o2_idxL (xs := r7.2) (e := eI) .dat) hA hm fun t19 v H hA hm => ?_
                  refine o2_c0 _ _ _ _ _ _ _ hA fun v H hA => ?_
                  refine f_tst (P := fun c H1 => _) hA fun hA => ?_
                  refine f_pick hm (fun hm => ?_) (fun hm => ?_)
                  ·
                    refine ev_str _ _ _ _ _ hA fun v H hA => ?_
                    exact hm v H hA
                  ·
                    refine ev_str _ _ _ _ _ hA fun v H hA => ?_
                    exact hm v H hA
                ·
                  replace hA : At K g [some (.dat ((eT (eP2 eS eI)) a.1)), some (.dat (eI a.2)), some (.dat ((eT (eP2 eS eI)) here_1)), some (.dat ((eL eS) r4.2)), some (.dat ((eL eI) r7.2)), none] _ _ _ := hA
                  exact hm v H _ (hA.weak1 (.d (.d .nil)) fun j z => nomatch z)
theorem ok_usable_rules (T : Txt K mg Z) : FnOk P w K mg base (L2.CX P w) 2 Z.f_usable_rules Z.d_usable_rules ["clocks"] (Spec K Z.ec 1 pre_usable_rules f_usable_rules post_usable_rules ret_usable_rules) := by
  refine fn_ok T.d_usable_rules.F sc_usable_rules rfl m_usable_rules fun cdv A outer s H E hr => ?_
  refine ⟨_, (pss_cons (ps_setLc (i := 1) (own := [("place", 2)]) (g := gName 2) rfl sc_usable_rules.nd rfl rfl (sw_true rfl rfl rfl (by decide +kernel)) (pi_range1 (by rfl) T.z_range (pa_cons (pe_callB (r := rLen K) c_len (by rfl) T.z_len (by decide +kernel) (pa_cons (pv 0) pa_nil)) pa_nil)) (blkOk_by (N := ["clocks", "found", "place", "pair"]) (sc := defScope st_usable_rules) (by decide +kernel)) (fun _ _ _ _ _ => (pg_name (i := 2) sc_usable_rules.nd rfl (Or.inl rfl))) (fun _ _ _ _ _ => pts_nil) (fun _ _ _ _ _ => (pe_tup (pa_cons (pv 2) (pa_cons (pe_callS (ok_rule_here (K := K) T) (hr.mono (by decide)) (by rfl) T.d_rule_here.g T.d_rule_here.F.kp T.d_rule_here.b (fun σ => passAt takes0 σ) (pa_cons (pv 0) (pa_cons (pv 2) pa_nil))) pa_nil)))))
  (pss_cons (ps_ret (pe_callTy (r := rTuple K) c_tuple (by rfl) T.z_tuple (by decide +kernel) (pa_cons (pe_lc (own := [("pair", 3)]) (g := gName 3) rfl sc_usable_rules.nd (pi_list (pv 1)) (blkOk_by (N := ["clocks", "found", "place", "pair"]) (sc := defScope st_usable_rules) (by decide +kernel)) (fun _ _ _ _ _ => (pg_name (i := 3) sc_usable_rules.nd rfl (Or.inl rfl))) (fun _ _ _ _ _ => (pts_one (pt_cmpR op_ne (pe_ix (r := rIxT K) ix_tup (pv 3) pe_int (fun _ _ => rfl)) pe_str (nomark _)))) (fun _ _ _ _ _ => (pv 3))) pa_nil)))
  pss_nil)), ?_⟩
  intro a as _
  change BJ K _ [some (.dat ((eT (eP2 eS eI)) a)), none, none, none] _ _ _ _ _
  refine fun g σ H D hA hm => x_asg ?_
  refine x_lcR1 ?_
  refine (ev_cb1 (ev_var rfl) (o1_lenT a (eP2 eS eI) .t)) _ _ _ _ _ hA fun v H hA => ?_
  refine f_rng1 (b := ((a).length : Int)) hA hm fun hm => f_lcW (e := eI) (enc := (eP2 eI eS)) (js := [2]) (ps := fun b2 => [eI b2]) (fun (s3 : Unit) => [some (.dat ((eT (eP2 eS eI)) a)), none, none, none]) (()) (fun b => tj_name) (by decide) (hnl fun s => rfl) (hnl fun s => rfl) (by decide) (lj_fwd fun s3 b2 g σ τ H Q Qn hA hm => ?_) hm (fun r4 v H hA hm => ?_)
  ·
    replace hA : At K g [some (.dat ((eT (eP2 eS eI)) a)), none, some (.dat (eI b2)), none] _ _ _ := hA
    refine x_yes ?_
    refine x_tup ?_
    refine x_cons ?_
    refine (ev_var rfl) _ _ _ _ _ hA fun v H hA => ?_
    refine x_cons ?_
    refine x_call2 ?_
    refine (ev_var rfl) _ _ _ _ _ hA fun v H hA => ?_
    refine (ev_var rfl) _ _ _ _ _ hA fun v H hA => ?_
    refine f_call [.d ((eT (eP2 eS eI)) a), .d (eI b2)] (a, b2) (fun r => []) hA rfl rfl True.intro (fun as h => match as, h with | [], _ => rfl) (fun _ => rfl) (fun r as h => match as, h with | [], _ => rfl) (fun r j z => nomatch z) .nil (hm.bindR.imp (fun r5 hm v H hA => ?_) fun _ q => q.elim)
    refine x_nil ?_
    refine f_tup (vs := [_, _]) [eI b2, eS r5] hA rfl (Nat.le_of_ble_eq_true rfl) fun v H hA => ?_
    exact hm v H hA
  ·
    replace hA : At K g [some (.dat ((eT (eP2 eS eI)) a)), none, none, none] _ _ _ := hA
    replace hA := hA.frz
    refine f_setgo hA (fun j z => nomatch z) rfl hm ?_
    change BJ K _ [some (.dat ((eT (eP2 eS eI)) a)), some (.dat ((eL (eP2 eI eS)) r4.2)), none, none] _ _ _ _ _
    refine fun g σ H D hA hm => x_ret ?_
    refine x_cb1 ?_
    refine x_lcL ?_
    refine (ev_var rfl) _ _ _ _ _ hA fun v H hA => ?_
    refine wk_list (xs := r4.2) (e := (eP2 eI eS)) hA (f_lcW (e := (eP2 eI eS)) (enc := (eP2 eI eS)) (js := [3]) (ps := fun b6 => [(eP2 eI eS) b6]) (fun (s7 : Unit) => [some (.dat ((eT (eP2 eS eI)) a)), some (.dat ((eL (eP2 eI eS)) r4.2)), none, none]) (()) (fun b => tj_name) (by decide) (hnl fun s => rfl) (hnl fun s => rfl) (by decide) (lj_fwd fun s7 b6 g σ τ H Q Qn hA hm => ?_) hm (fun r8 v H hA hm => ?_))
    ·
      replace hA : At K g [some (.dat ((eT (eP2 eS eI)) a)), some (.dat ((eL (eP2 eI eS)) r4.2)), none, some (.dat ((eP2 eI eS) b6))] _ _ _ := hA
      refine (evb_test (ev_op (ev_op (ev_var rfl) ev_int (o2_ixK (p := eS b6.2))) ev_str o2_neS)) _ _ _ _ _ hA fun H hA => ?_
      refine f_pick hm (fun hm => ?_) (fun hm => ?_)
      ·
        refine (ev_var rfl) _ _ _ _ _ hA fun v H hA => ?_
        exact hm v H hA
      ·
        exact hm H hA
    ·
      replace hA : At K g [some (.dat ((eT (eP2 eS eI)) a)), some (.dat ((eL (eP2 eI eS)) r4.2)), none, none] _ _ _ := hA
      refine o1_tuple (.l .own) _ _ _ _ _ _ hA fun v H hA => ?_
      exact hm v H _ (hA.weak1 (.d .nil) fun j z => nomatch z)
theorem ok_first_rule (T : Txt K mg Z) : FnOk P w K mg base (L2.CX P w) 3 Z.f_first_rule Z.d_first_rule ["clocks"] (Spec K Z.ec 1 pre_first_rule f_first_rule post_first_rule ret_first_rule) := by
  refine fn_ok T.d_first_rule.F sc_first_rule rfl m_first_rule fun cdv A outer s H E hr => ?_
  refine ⟨_, (pss_cons (ps_set (i := 1) sc_first_rule.nd rfl (Or.inl rfl) (pe_callS (ok_usable_rules (K := K) T) (hr.mono (by decide)) (by rfl) T.d_usable_rules.g T.d_usable_rules.F.kp T.d_usable_rules.b (fun σ => passAt (takes_of rfl rfl rfl rfl) σ) (pa_cons (pv 0) pa_nil)))
  (pss_cons (ps_setLc (i := 2) (own := [("pair", 3)]) (g := gName 3) rfl sc_first_rule.nd rfl rfl (sw_true rfl rfl rfl (by decide +kernel)) (pi_tup (pv 1)) (blkOk_by (N := ["clocks", "pairs", "simple", "pair"]) (sc := defScope st_first_rule) (by decide +kernel)) (fun _ _ _ _ _ => (pg_name (i := 3) sc_first_rule.nd rfl (Or.inl rfl))) (fun _ _ _ _ _ => (pts_one (pt_cmpR (r := rIn K false) op_in_seq (pe_ix (r := rIxT K) ix_tup (pv 3) pe_int (fun _ _ => rfl)) (pe_tup (pa_cons pe_str (pa_cons pe_str pa_nil))) rfl))) (fun _ _ _ _ _ => (pv 3)))
  (pss_cons (ps_if (pt_cmpR op_gt (pe_callB (r := rLen K) c_len (by rfl) T.z_len (by decide +kernel) (pa_cons (pv 2) pa_nil)) pe_int (nomark _)) (pss_cons (ps_ret (pe_ix (r := rIxL K) ix_list (pv 2) pe_int (fun _ _ => rfl)))
  pss_nil) pss_nil)
  (pss_cons (ps_ret (pe_ifExp (pt_cmpR op_gt (pe_callB (r := rLen K) c_len (by rfl) T.z_len (by decide +kernel) (pa_cons (pv 1) pa_nil)) pe_int (nomark _)) (pe_ix (r := rIxT K) ix_tup (pv 1) pe_int (fun _ _ => rfl)) pe_non))
  pss_nil)))), ?_⟩
  intro a as _
  change BJ K _ [some (.dat ((eT (eP2 eS eI)) a)), none, none, none] _ _ _ _ _
  refine fun g σ H D hA hm => x_asg ?_
  refine x_call1 ?_
  refine (ev_var rfl) _ _ _ _ _ hA fun v H hA => ?_
  refine f_call [.d ((eT (eP2 eS eI)) a)] a (fun r => []) hA rfl rfl True.intro (fun as h => match as, h with | [], _ => rfl) (fun _ => rfl) (fun r as h => match as, h with | [], _ => rfl) (fun r j z => nomatch z) .nil (hm.bindR.imp (fun r1 hm v H hA => ?_) fun _ q => q)
  refine f_setgo hA (fun j z => nomatch z) rfl hm ?_
  change BJ K _ [some (.dat ((eT (eP2 eS eI)) a)), some (.dat ((eT (eP2 eI eS)) r1)), none, none] _ _ _ _ _
  refine fun g σ H D hA hm => x_asg ?_
  refine x_lcT ?_
  refine (ev_var rfl) _ _ _ _ _ hA fun v H hA => ?_
  refine wk_tup (xs := r1) (e := (eP2 eI eS)) hA (f_lcW (e := (eP2 eI eS)) (enc := (eP2 eI eS)) (js := [3]) (ps := fun b2 => [(eP2 eI eS) b2]) (fun (s3 : Unit) => [some (.dat ((eT (eP2 eS eI)) a)), some (.dat ((eT (eP2 eI eS)) r1)), none, none]) (()) (fun b => tj_name) (by decide) (hnl fun s => rfl) (hnl fun s => rfl) (by decide) (lj_fwd fun s3 b2 g σ τ H Q Qn hA hm => ?_) hm (fun r4 v H hA hm => ?_))
  ·
    replace hA : At K g [some (.dat ((eT (eP2 eS eI)) a)), some (.dat ((eT (eP2 eI eS)) r1)), none, some (.dat ((eP2 eI eS) b2))] _ _ _ := hA
    refine (evb_test (ev_op (ev_op (ev_var rfl) ev_int (o2_ixK (p := eS b2.2))) (ev_tup [eS ("nothing" : Str), eS ("added" : Str)] (ea_cons ev_str (ea_cons ev_str ea_nil))) (o2_inS (xs := [(("nothing" : Str), ("added" : Str)).1, (("nothing" : Str), ("added" : Str)).2]) .t))) _ _ _ _ _ hA fun H hA => ?_
    refine f_pick hm (fun hm => ?_) (fun hm => ?_)
    ·
      refine (ev_var rfl) _ _ _ _ _ hA fun v H hA => ?_
      exact hm v H hA
    ·
      exact hm H hA
  ·
    replace hA : At K g [some (.dat ((eT (eP2 eS eI)) a)), some (.dat ((eT (eP2 eI eS)) r1)), none, none] _ _ _ := hA
    replace hA := hA.frz
    refine f_setgo hA (fun j z => nomatch z) rfl hm ?_
    change BJ K _ [some (.dat ((eT (eP2 eS eI)) a)), some (.dat ((eT (eP2 eI eS)) r1)), some (.dat ((eL (eP2 eI eS)) r4.2)), none] _ _ _ _ _
    refine bj_ifL (evb_test (ev_op (ev_cb1 (ev_var rfl) (o1_lenT r4.2 (eP2 eI eS) (.l .dat))) ev_int o2_c0)) ?_ ?_
    ·
      refine bj_assoc ?_
      refine fun g σ H D hA hm => x_ret ?_
      refine x_op ?_
      refine (ev_var rfl) _ _ _ _ _ hA fun v H hA => ?_
      refine ev_int _ _ _ _ _ hA fun v H hA => ?_
      refine f_o2m (o2_idxL (xs := r4.2) (e := (eP2 eI eS)) .dat) hA hm fun t5 v H hA hm => ?_
      exact hm v H _ (hA.weak1 (.d .nil) fun j z => nomatch z)
    ·
      refine bj_pass ?_
      refine fun g σ H D hA hm => x_ret ?_
      refine f_joinV (fun (s : (Option (Int × Str))) => [some (.dat ((eT (eP2 eS eI)) a)), some (.dat ((eT (eP2 eI eS)) r1)), some (.dat ((eL (eP2 eI eS)) r4.2)), none]) (fun s => .dat ((eO (eP2 eI eS)) s)) hA hm (fun hm => ?_) (fun j6 v H hA hm => ?_)
      ·
        refine x_if ?_
        refine (evb_test (ev_op (ev_cb1 (ev_var rfl) (o1_lenT r1 (eP2 eI eS) .t)) ev_int o2_c0)) _ _ _ _ _ hA fun H hA => ?_
        refine f_pick hm (fun hm => ?_) (fun hm => ?_)
        ·
          refine x_op ?_
          refine (ev_var rfl) _ _ _ _ _ hA fun v H hA => ?_
          refine ev_int _ _ _ _ _ hA fun v H hA => ?_
          refine f_o2m (o2_idxT (xs := r1) (e := (eP2 eI eS))) hA hm fun t7 v H hA hm => ?_
          exact hm v H hA
        ·
          refine ev_non _ _ _ _ _ hA fun v H hA => ?_
          exact hm v H hA
      ·
        replace hA : At K g [some (.dat ((eT (eP2 eS eI)) a)), some (.dat ((eT (eP2 eI eS)) r1)), some (.dat ((eL (eP2 eI eS)) r4.2)), none] _ _ _ := hA
        exact hm v H _ (hA.weak1 (.d .nil) fun j z => nomatch z)
theorem ok_ruled (T : Txt K mg Z) : FnOk P w K mg base (L2.CX P w) 1 Z.f_ruled Z.d_ruled ["clocks", "delay", "place", "rule"] (Spec K Z.ec 4 pre_ruled f_ruled post_ruled ret_ruled) := by
  refine fn_ok T.d_ruled.F sc_ruled rfl m_ruled fun cdv A outer s H E hr => ?_
  refine ⟨_, (pss_cons (ps_set (i := 4) sc_ruled.nd rfl (Or.inl rfl) (pe_slice (r := rSlA K) sl_tupA (pv 0) po_none (po_some (pv 2))))
  (pss_cons (ps_asg (pe_ix (r := rIxT K) ix_tup (pv 0) (pv 2) (fun _ _ => rfl)) (pg_tup rfl (pgs_cons (pg_name (i := 7) sc_ruled.nd rfl (Or.inl rfl)) (pgs_cons (pg_name (i := 8) sc_ruled.nd rfl (Or.inl rfl)) pgs_nil))))
  (pss_cons (ps_if (pt_cmpR op_eq (pv 3) pe_str (nomark _)) (pss_cons (ps_ret (pe_tup (pa_cons (pe_op (r := rCatA K) op_catA (pv 4) (pe_slice (r := rSlA K) sl_tupA (pv 0) (po_some (pe_op op_add (pv 2) pe_int)) po_none)) (pa_cons (pv 1) pa_nil))))
  pss_nil) pss_nil)
  (pss_cons (ps_set (i := 5) sc_ruled.nd rfl (Or.inl rfl) (pe_ix (r := rIxT K) ix_tup (pv 0) (pe_op op_add (pv 2) pe_int) (fun _ _ => rfl)))
  (pss_cons (ps_if (pt_cmpR op_eq (pv 3) pe_str (nomark _)) (pss_cons (ps_ret (pe_tup (pa_cons (pe_op (r := rCatA K) op_catA (pe_op (r := rCatA K) op_catA (pv 4) (pe_tup (pa_cons (pe_tup (pa_cons (pv 7) (pa_cons (pe_op op_add (pv 8) (pe_ix (r := rIxT K) ix_tup (pv 5) pe_int (fun _ _ => rfl))) pa_nil))) pa_nil))) (pe_slice (r := rSlA K) sl_tupA (pv 0) (po_some (pe_op op_add (pv 2) pe_int)) po_none)) (pa_cons (pv 1) pa_nil))))
  pss_nil) pss_nil)
  (pss_cons (ps_set (i := 6) sc_ruled.nd rfl (Or.inl rfl) (pe_ix (r := rIxT K) ix_tup (pv 0) (pe_op op_add (pv 2) pe_int) (fun _ _ => rfl)))
  (pss_cons (ps_if (pt_cmpR op_eq (pv 3) pe_str (nomark _)) (pss_cons (ps_ret (pe_tup (pa_cons (pe_op (r := rCatA K) op_catA (pe_op (r := rCatA K) op_catA (pv 4) (pe_tup (pa_cons (pe_tup (pa_cons (pv 7) (pa_cons (pe_op op_sub (pe_op op_add (pv 8) (pe_ix (r := rIxT K) ix_tup (pv 6) pe_int (fun _ _ => rfl))) (pe_ix (r := rIxT K) ix_tup (pv 5) pe_int (fun _ _ => rfl))) pa_nil))) pa_nil))) (pe_slice (r := rSlA K) sl_tupA (pv 0) (po_some (pe_op op_add (pv 2) pe_int)) po_none)) (pa_cons (pe_op op_add (pv 1) (pe_ix (r := rIxT K) ix_tup (pv 5) pe_int (fun _ _ => rfl))) pa_nil))))
  pss_nil) pss_nil)
  (pss_cons (ps_ret (pe_tup (pa_cons (pe_op (r := rCatA K) op_catA (pe_op (r := rCatA K) op_catA (pv 4) (pe_tup (pa_cons (pe_tup (pa_cons (pv 7) (pa_cons (pv 8) pa_nil))) (pa_cons (pe_tup (pa_cons (pe_ix (r := rIxT K) ix_tup (pv 5) pe_int (fun _ _ => rfl)) (pa_cons (pe_op op_sub (pe_ix (r := rIxT K) ix_tup (pv 5) pe_int (fun _ _ => rfl)) (pe_ix (r := rIxT K) ix_tup (pv 6) pe_int (fun _ _ => rfl))) pa_nil))) pa_nil)))) (pe_slice (r := rSlA K) sl_tupA (pv 0) (po_some (pe_op op_add (pv 2) pe_int)) po_none)) (pa_cons (pe_op op_add (pv 1) (pe_ix (r := rIxT K) ix_tup (pv 6) pe_int (fun _ _ => rfl))) pa_nil))))
  pss_nil)))))))), ?_⟩
  intro a as _
  change BJ K _ [some (.dat ((eT (eP2 eS eI)) a.1)), some (.dat (eI a.2.1)), some (.dat (eI a.2.2.1)), some (.dat (eS a.2.2.2)), none, none, none, none, none] _ _ _ _ _
  refine fun g σ H D hA hm => x_asg ?_
  refine (ev_slice (ev_var rfl) evo_none (evo_some (ev_var rfl)) (o1_cutTT (xs := a.1) (e := (eP2 eS eI)))) _ _ _ _ _ hA fun v H hA => ?_
  refine f_setlt (e := (cutL a.1 none (some a.2.2.1))) (fun t => .dat ((eT (eP2 eS eI)) t)) hA (fun t j z => nomatch z) rfl hm (fun head_1 => ?_)
  change BJ K _ [some (.dat ((eT (eP2 eS eI)) a.1)), some (.dat (eI a.2.1)), some (.dat (eI a.2.2.1)), some (.dat (eS a.2.2.2)), some (.dat ((eT (eP2 eS eI)) head_1)), none, none, none, none] _ _ _ _ _
  refine fun g σ H D hA hm => x_asg ?_
  refine x_op ?_
  refine (ev_var rfl) _ _ _ _ _ hA fun v H hA => ?_
  refine (ev_var rfl) _ _ _ _ _ hA fun v H hA => ?_
  refine f_o2m (o2_idxT (xs := a.1) (e := (eP2 eS eI))) hA hm fun t2 v H hA hm => ?_
  refine (tj_tup (tjs_cons tj_name (tjs_cons tj_name tjs_nil)) rfl).2 _ _ _ _ _ _ _ (hjl (sT := Unit) (Gl := fun _ => [some (.dat ((eT (eP2 eS eI)) a.1)), some (.dat (eI a.2.1)), some (.dat (eI a.2.2.1)), some (.dat (eS a.2.2.2)), some (.dat ((eT (eP2 eS eI)) head_1)), none, none, none, none]) (js := [7, 8]) (n := 9) (fun _ => rfl) (by decide) ()) (by intro y hy; cases hy) hA fun vs H _ hA => ?_
  replace hA : At K g [some (.dat ((eT (eP2 eS eI)) a.1)), some (.dat (eI a.2.1)), some (.dat (eI a.2.2.1)), some (.dat (eS a.2.2.2)), some (.dat ((eT (eP2 eS eI)) head_1)), none, none, some (.dat (eS t2.1)), some (.dat (eI t2.2))] _ _ _ := hA
  refine bj_go hA hm ?_
  refine bj_ifL (evb_test (ev_op (ev_var rfl) ev_str o2_eqS)) ?_ ?_
  ·
    refine bj_assoc ?_
    refine fun g σ H D hA hm => x_ret ?_
    refine x_tup ?_
    refine x_cons ?_
    refine x_op ?_
    refine (ev_var rfl) _ _ _ _ _ hA fun v H hA => ?_
    refine (ev_slice (ev_var rfl) (evo_some (ev_op (ev_var rfl) ev_int o2_i0)) evo_none (o1_cutTT (xs := a.1) (e := (eP2 eS eI)))) _ _ _ _ _ hA fun v H hA => ?_
    refine f_o2m (o2_catT (xs := head_1) (ys := (cutL a.1 (some (a.2.2.1 + (1 : Int))) none)) (e := (eP2 eS eI))) hA hm fun t3 v H hA hm => ?_
    refine x_cons ?_
    refine (ev_var rfl) _ _ _ _ _ hA fun v H hA => ?_
    refine x_nil ?_
    refine f_tup (vs := [_, _]) [(eT (eP2 eS eI)) t3, eI a.2.1] hA rfl (Nat.le_of_ble_eq_true rfl) fun v H hA => ?_
    exact hm v H _ (hA.weak1 (.d (.d (.d (.d .nil)))) fun j z => nomatch z)
  ·
    refine bj_pass ?_
    refine fun g σ H D hA hm => x_asg ?_
    refine x_op ?_
    refine (ev_var rfl) _ _ _ _ _ hA fun v H hA => ?_
    refine (ev_op (ev_var rfl) ev_int o2_i0) _ _ _ _ _ hA fun v H hA => ?_
    refine f_o2m (o2_idxT (xs := a.1) (e := (eP2 eS eI))) hA hm fun t4 v H hA hm => ?_
    refine f_setgo hA (fun j z => nomatch z) rfl hm ?_
    change BJ K _ [some (.dat ((eT (eP2 eS eI)) a.1)), some (.dat (eI a.2.1)), some (.dat (eI a.2.2.1)), some (.dat (eS a.2.2.2)), some (.dat ((eT (eP2 eS eI)) head_1)), some (.dat ((eP2 eS eI) t4)), none, some (.dat (eS t2.1)), some (.dat (eI t2.2))] _ _ _ _ _
    refine bj_ifL (evb_test (ev_op (ev_var rfl) ev_str o2_eqS)) ?_ ?_
    ·
      refine bj_assoc ?_
      refine fun g σ H D hA hm => x_ret ?_
      refine x_tup ?_
      refine x_cons ?_
      refine x_op ?_
      refine x_op ?_
      refine (ev_var rfl) _ _ _ _ _ hA fun v H hA => ?_
      refine (ev_tup [(eP2 eS eI) (t2.1, (t2.2 + t4.2))] (ea_cons (ev_tup [eS t2.1, eI (t2.2 + t4.2)] (ea_cons (ev_var rfl) (ea_cons (ev_op (ev_var rfl) (ev_op (ev_var rfl) ev_int (o2_ixK (p := eI t4.2))) o2_i0) ea_nil))) ea_nil)) _ _ _ _ _ hA fun v H hA => ?_
      refine f_o2m (o2_catT (xs := head_1) (ys := [(t2.1, (t2.2 + t4.2))]) (e := (eP2 eS eI))) hA hm fun t5 v H hA hm => ?_
      refine (ev_slice (ev_var rfl) (evo_some (ev_op (ev_var rfl) ev_int o2_i0)) evo_none (o1_cutTT (xs := a.1) (e := (eP2 eS eI)))) _ _ _ _ _ hA fun v H hA => ?_
      refine f_o2m (o2_catT (xs := t5) (ys := (cutL a.1 (some (a.2.2.1 + (2 : Int))) none)) (e := (eP2 eS eI))) hA hm fun t6 v H hA hm => ?_
      refine x_cons ?_
      refine (ev_var rfl) _ _ _ _ _ hA fun v H hA => ?_
      refine x_nil ?_
      refine f_tup (vs := [_, _]) [(eT (eP2 eS eI)) t6, eI a.2.1] hA rfl (Nat.le_of_ble_eq_true rfl) fun v H hA => ?_
      exact hm v H _ (hA.weak1 (.d (.d (.d (.d .nil)))) fun j z => nomatch z)
    ·
      refine bj_pass ?_
      refine fun g σ H D hA hm => x_asg ?_
      refine x_op ?_
      refine (ev_var rfl) _ _ _ _ _ hA fun v H hA => ?_
      refine (ev_op (ev_var rfl) ev_int o2_i0) _ _ _ _ _ hA fun v H hA => ?_
      refine f_o2m (o2_idxT (xs := a.1) (e := (eP2 eS eI))) hA hm fun t7 v H hA hm => ?_
      refine f_setgo hA (fun j z => nomatch z) rfl hm ?_
      change BJ K _ [some (.dat ((eT (eP2 eS eI)) a.1)), some (.dat (eI a.2.1)), some (.dat (eI a.2.2.1)), some (.dat (eS a.2.2.2)), some (.dat ((eT (eP2 eS eI)) head_1)), some (.dat ((eP2 eS eI) t4)), some (.dat ((eP2 eS eI) t7)), some (.dat (eS t2.1)), some (.dat (eI t2.2))] _ _ _ _ _
      refine bj_ifL (evb_test (ev_op (ev_var rfl) ev_str o2_eqS)) ?_ ?_
      ·
        refine bj_assoc ?_
        refine fun g σ H D hA hm => x_ret ?_
        refine x_tup ?_
        refine x_cons ?_
        refine x_op ?_
        refine x_op ?_
        refine (ev_var rfl) _ _ _ _ _ hA fun v H hA => ?_
        refine (ev_tup [(eP2 eS eI) (t2.1, ((t2.2 + t7.2) - t4.2))] (ea_cons (ev_tup [eS t2.1, eI ((t2.2 + t7.2) - t4.2)] (ea_cons (ev_var rfl) (ea_cons (ev_op (ev_op (ev_var rfl) (ev_op (ev_var rfl) ev_int (o2_ixK (p := eI t7.2))) o2_i0) (ev_op (ev_var rfl) ev_int (o2_ixK (p := eI t4.2))) o2_i0) ea_nil))) ea_nil)) _ _ _ _ _ hA fun v H hA => ?_
        refine f_o2m (o2_catT (xs := head_1) (ys := [(t2.1, ((t2.2 + t7.2) - t4.2))]) (e := (eP2 eS eI))) hA hm fun t8 v H hA hm => ?_
        refine (ev_slice (ev_var rfl) (evo_some (ev_op (ev_var rfl) ev_int o2_i0)) evo_none (o1_cutTT (xs := a.1) (e := (eP2 eS eI)))) _ _ _ _ _ hA fun v H hA => ?_
        refine f_o2m (o2_catT (xs := t8) (ys := (cutL a.1 (some (a.2.2.1 + (3 : Int))) none)) (e := (eP2 eS eI))) hA hm fun t9 v H hA hm => ?_
        refine x_cons ?_
        refine (ev_op (ev_var rfl) (ev_op (ev_var rfl) ev_int (o2_ixK (p := eI t4.2))) o2_i0) _ _ _ _ _ hA fun v H hA => ?_
        refine x_nil ?_
        refine f_tup (vs := [_, _]) [(eT (eP2 eS eI)) t9, eI (a.2.1 + t4.2)] hA rfl (Nat.le_of_ble_eq_true rfl) fun v H hA => ?_
        exact hm v H _ (hA.weak1 (.d (.d (.d (.d .nil)))) fun j z => nomatch z)
      ·
        refine bj_pass ?_
        refine fun g σ H D hA hm => x_ret ?_
        refine x_tup ?_
        refine x_cons ?_
        refine x_op ?_
        refine x_op ?_
        refine (ev_var rfl) _ _ _ _ _ hA fun v H hA => ?_
        refine (ev_tup [(eP2 eS eI) (t2.1, t2.2), (eP2 eS eI) (t4.1, (t4.2 - t7.2))] (ea_cons (ev_tup [eS t2.1, eI t2.2] (ea_cons (ev_var rfl) (ea_cons (ev_var rfl) ea_nil))) (ea_cons (ev_tup [eS t4.1, eI (t4.2 - t7.2)] (ea_cons (ev_op (ev_var rfl) ev_int (o2_ixK (p := eS t4.1))) (ea_cons (ev_op (ev_op (ev_var rfl) ev_int (o2_ixK (p := eI t4.2))) (ev_op (ev_var rfl) ev_int (o2_ixK (p := eI t7.2))) o2_i0) ea_nil))) ea_nil))) _ _ _ _ _ hA fun v H hA => ?_
        refine f_o2m (o2_catT (xs := head_1) (ys := [((t2.1, t2.2), (t4.1, (t4.2 - t7.2))).1, ((t2.1, t2.2), (t4.1, (t4.2 - t7.2))).2]) (e := (eP2 eS eI))) hA hm fun t10 v H hA hm => ?_
        refine (ev_slice (ev_var rfl) (evo_some (ev_op (ev_var rfl) ev_int o2_i0)) evo_none (o1_cutTT (xs := a.1) (e := (eP2 eS eI)))) _ _ _ _ _ hA fun v H hA => ?_
        refine f_o2m (o2_catT (xs := t10) (ys := (cutL a.1 (some (a.2.2.1 + (3 : Int))) none)) (e := (eP2 eS eI))) hA hm fun t11 v H hA hm => ?_
        refine x_cons ?_
        refine (ev_op (ev_var rfl) (ev_op (ev_var rfl) ev_int (o2_ixK (p := eI t7.2))) o2_i0) _ _ _ _ _ hA fun v H hA => ?_
        refine x_nil ?_
        refine f_tup (vs := [_, _]) [(eT (eP2 eS eI)) t11, eI (a.2.1 + t7.2)] hA rfl (Nat.le_of_ble_eq_true rfl) fun v H hA => ?_
        exact hm v H _ (hA.weak1 (.d (.d (.d (.d .nil)))) fun j z => nomatch z)
theorem ok_normal_clocks (T : Txt K mg Z) : FnOk P w K mg base (L2.CX P w) 4 Z.f_normal_clocks Z.d_normal_clocks ["clocks", "delay"] (Spec K Z.ec 2 pre_normal_clocks f_normal_clocks post_normal_clocks ret_normal_clocks) := by
  refine fn_ok T.d_normal_clocks.F sc_normal_clocks rfl m_normal_clocks fun cdv A outer s H E hr => ?_
  refine ⟨_, (pss_cons (ps_set (i := 2) sc_normal_clocks.nd rfl (Or.inl rfl) (pe_callS (ok_first_rule (K := K) T) (hr.mono (by decide)) (by rfl) T.d_first_rule.g T.d_first_rule.F.kp T.d_first_rule.b (fun σ => passAt (takes_of rfl rfl rfl rfl) σ) (pa_cons (pv 0) pa_nil)))
  (pss_cons (ps_while (passes_of rfl) (pt_cmpR p_notN (pv 2) pe_non (nomark _)) (pss_cons (ps_asg (pe_callS (ok_ruled (K := K) T) (hr.mono (by decide)) (by rfl) T.d_ruled.g T.d_ruled.F.kp T.d_ruled.b (fun σ => passAt (takes_of rfl rfl rfl rfl) σ) (pa_cons (pv 0) (pa_cons (pv 1) (pa_cons (pe_ix (r := rIxT K) ix_tup (pv 2) pe_int (fun _ _ => rfl)) (pa_cons (pe_ix (r := rIxT K) ix_tup (pv 2) pe_int (fun _ _ => rfl)) pa_nil))))) (pg_tup rfl (pgs_cons (pg_name (i := 0) sc_normal_clocks.nd rfl (Or.inl rfl)) (pgs_cons (pg_name (i := 1) sc_normal_clocks.nd rfl (Or.inl rfl)) pgs_nil))))
  (pss_cons (ps_set (i := 2) sc_normal_clocks.nd rfl (Or.inl rfl) (pe_callS (ok_first_rule (K := K) T) (hr.mono (by decide)) (by rfl) T.d_first_rule.g T.d_first_rule.F.kp T.d_first_rule.b (fun σ => passAt (takes_of rfl rfl rfl rfl) σ) (pa_cons (pv 0) pa_nil)))
  pss_nil)))
  (pss_cons (ps_ret (pe_tup (pa_cons (pv 0) (pa_cons (pv 1) pa_nil))))
  pss_nil))), ?_⟩
  intro a as _
  change BJ K _ [some (.dat ((eT (eP2 eS eI)) a.1)), some (.dat (eI a.2)), none] _ _ _ _ _
  refine fun g σ H D hA hm => x_asg ?_
  refine x_call1 ?_
  refine (ev_var rfl) _ _ _ _ _ hA fun v H hA => ?_
  refine f_call [.d ((eT (eP2 eS eI)) a.1)] a.1 (fun r => []) hA rfl rfl True.intro (fun as h => match as, h with | [], _ => rfl) (fun _ => rfl) (fun r as h => match as, h with | [], _ => rfl) (fun r j z => nomatch z) .nil (hm.bindR.imp (fun r1 hm v H hA => ?_) fun _ q => q)
  refine f_setgo hA (fun j z => nomatch z) rfl hm ?_
  change BJ K _ [some (.dat ((eT (eP2 eS eI)) a.1)), some (.dat (eI a.2)), some (.dat ((eO (eP2 eI eS)) r1))] _ _ _ _ _
  refine bj_while (fun (s2 : ((List (Str × Int)) × Int × (Option (Int × Str)))) => [some (.dat ((eT (eP2 eS eI)) s2.1)), some (.dat (eI s2.2.1)), some (.dat ((eO (eP2 eI eS)) s2.2.2))]) (s0 := (a.1, a.2, r1)) (.s (.s (.s .nil))) (cj_pure fun s2 => (evb_test (ev_op (ev_var rfl) ev_non (o2_notN nn_t)))) (fun s2 => ?_) (fun s2 => ?_)
  ·
    change BJ K _ [some (.dat ((eT (eP2 eS eI)) s2.1)), some (.dat (eI s2.2.1)), some (.dat ((eO (eP2 eI eS)) s2.2.2))] _ _ _ _ _
    refine fun g σ H D hA hm => x_asg ?_
    refine x_call4 ?_
    refine (ev_var rfl) _ _ _ _ _ hA fun v H hA => ?_
    refine (ev_var rfl) _ _ _ _ _ hA fun v H hA => ?_
    refine x_op ?_
    refine (ev_var rfl) _ _ _ _ _ hA fun v H hA => ?_
    refine f_get hA hm fun t3 hA hm => ?_
    refine ev_int _ _ _ _ _ hA fun v H hA => ?_
    refine (o2_ixK (p := eI t3.1) rfl) _ _ _ _ _ _ _ hA fun v H hA => ?_
    refine x_op ?_
    refine (ev_var rfl) _ _ _ _ _ hA fun v H hA => ?_
    refine f_get hA hm fun t4 hA hm => ?_
    refine ev_int _ _ _ _ _ hA fun v H hA => ?_
    refine (o2_ixK (p := eS t4.2) rfl) _ _ _ _ _ _ _ hA fun v H hA => ?_
    refine f_call [.d ((eT (eP2 eS eI)) s2.1), .d (eI s2.2.1), .d (eI t3.1), .d (eS t4.2)] (s2.1, s2.2.1, t3.1, t4.2) (fun r => []) hA rfl rfl True.intro (fun as h => match as, h with | [], _ => rfl) (fun _ => rfl) (fun r as h => match as, h with | [], _ => rfl) (fun r j z => nomatch z) .nil (hm.bindR.imp (fun r5 hm v H hA => ?_) fun _ q => q)
    refine (tj_tup (tjs_cons tj_name (tjs_cons tj_name tjs_nil)) rfl).2 _ _ _ _ _ _ _ (hjl (sT := Unit) (Gl := fun _ => [some (.dat ((eT (eP2 eS eI)) s2.1)), some (.dat (eI s2.2.1)), some (.dat ((eO (eP2 eI eS)) s2.2.2))]) (js := [0, 1]) (n := 3) (fun _ => rfl) (by decide) ()) (by intro y hy; cases hy) hA fun vs H _ hA => ?_
    replace hA : At K g [some (.dat ((eT (eP2 eS eI)) r5.1)), some (.dat (eI r5.2)), some (.dat ((eO (eP2 eI eS)) s2.2.2))] _ _ _ := hA
    refine bj_go hA hm ?_
    refine fun g σ H D hA hm => x_asg ?_
    refine x_call1 ?_
    refine (ev_var rfl) _ _ _ _ _ hA fun v H hA => ?_
    refine f_call [.d ((eT (eP2 eS eI)) r5.1)] r5.1 (fun r => []) hA rfl rfl True.intro (fun as h => match as, h with | [], _ => rfl) (fun _ => rfl) (fun r as h => match as, h with | [], _ => rfl) (fun r j z => nomatch z) .nil (hm.bindR.imp (fun r6 hm v H hA => ?_) fun _ q => q)
    refine f_setgo hA (fun j z => nomatch z) rfl hm ?_
    change BJ K _ [some (.dat ((eT (eP2 eS eI)) r5.1)), some (.dat (eI r5.2)), some (.dat ((eO (eP2 eI eS)) r6))] _ _ _ _ _
    exact bj_nx (a := (r5.1, r5.2, r6)) (.s (.s (.s .nil)))
  ·
    change BJ K _ [some (.dat ((eT (eP2 eS eI)) s2.1)), some (.dat (eI s2.2.1)), some (.dat ((eO (eP2 eI eS)) s2.2.2))] _ _ _ _ _
    refine fun g σ H D hA hm => x_ret ?_
    refine (ev_tup [(eT (eP2 eS eI)) s2.1, eI s2.2.1] (ea_cons (ev_var rfl) (ea_cons (ev_var rfl) ea_nil))) _ _ _ _ _ hA fun v H hA => ?_
    exact hm v H _ (hA.weak1 (.d (.d .nil)) fun j z => nomatch z)
theorem ok_normal (T : Txt K mg Z) : FnOk P w K mg base (L2.CX P w) 5 Z.f_normal Z.d_normal ["row", "delay"] (Spec K Z.ec 2 pre_normal f_normal post_normal ret_normal) := by
  refine fn_ok T.d_normal.F sc_normal rfl m_normal fun cdv A outer s H E hr => ?_
  refine ⟨_, (pss_cons (ps_set (i := 2) sc_normal.nd rfl (Or.inl rfl) (pe_callS (ok_checked_clocks (K := K) T) (hr.mono (by decide)) (by rfl) T.d_checked_clocks.g T.d_checked_clocks.F.kp T.d_checked_clocks.b (fun σ => passAt (takes_of rfl rfl rfl rfl) σ) (pa_cons (pv 0) (pa_cons pe_str pa_nil))))
  (pss_cons (ps_expr (pe_callS (ok_check_delay (K := K) T) (hr.mono (by decide)) (by rfl) T.d_check_delay.g T.d_check_delay.F.kp T.d_check_delay.b (fun σ => passAt (takes_of rfl rfl rfl rfl) σ) (pa_cons (pv 1) (pa_cons pe_str pa_nil))))
  (pss_cons (ps_ret (pe_callS (ok_normal_clocks (K := K) T) (hr.mono (by decide)) (by rfl) T.d_normal_clocks.g T.d_normal_clocks.F.kp T.d_normal_clocks.b (fun σ => passAt (takes_of rfl rfl rfl rfl) σ) (pa_cons (pv 2) (pa_cons (pv 1) pa_nil))))
  pss_nil))), ?_⟩
  intro a as _
  change BJ K _ [some (.dat (eD a.1)), some (.dat (eD a.2)), none] _ _ _ _ _
  refine fun g σ H D hA hm => x_asg ?_
  refine x_call2 ?_
  refine (ev_var rfl) _ _ _ _ _ hA fun v H hA => ?_
  refine ev_str _ _ _ _ _ hA fun v H hA => ?_
  refine f_call [.d (eD a.1), .d (eS ("row" : Str))] (a.1, ("row" : Str)) (fun r => []) hA rfl rfl True.intro (fun as h => match as, h with | [], _ => rfl) (fun _ => rfl) (fun r as h => match as, h with | [], _ => rfl) (fun r j z => nomatch z) .nil (hm.bindR.imp (fun r1 hm v H hA => ?_) fun _ q => q)
  refine f_setgo hA (fun j z => nomatch z) rfl hm ?_
  change BJ K _ [some (.dat (eD a.1)), some (.dat (eD a.2)), some (.dat ((eT (eP2 eS eI)) r1))] _ _ _ _ _
  refine fun g σ H D hA hm => x_drop ?_
  refine x_call2 ?_
  refine (ev_var rfl) _ _ _ _ _ hA fun v H hA => ?_
  refine ev_str _ _ _ _ _ hA fun v H hA => ?_
  refine f_call [.d (eD a.2), .d (eS ("delay" : Str))] (a.2, ("delay" : Str)) (fun r => []) hA rfl rfl True.intro (fun as h => match as, h with | [], _ => rfl) (fun _ => rfl) (fun r as h => match as, h with | [], _ => rfl) (fun r j z => nomatch z) .nil (hm.bindR.imp (fun r2 hm v H hA => ?_) fun _ q => q)
  refine f_dropgo hA hm ?_
  change BJ K _ [some (.dat (eD a.1)), some (.dat (eD a.2)), some (.dat ((eT (eP2 eS eI)) r1))] _ _ _ _ _
  refine fun g σ H D hA hm => x_ret ?_
  refine x_call2 ?_
  refine (ev_var rfl) _ _ _ _ _ hA fun v H hA => ?_
  refine (ev_var rfl) _ _ _ _ _ hA fun v H hA => ?_
  refine f_int hA hm fun t3 hA hm => ?_
  refine f_call [.d ((eT (eP2 eS eI)) r1), .d (eI t3)] (r1, t3) (fun r => []) hA rfl rfl True.intro (fun as h => match as, h with | [], _ => rfl) (fun _ => rfl) (fun r as h => match as, h with | [], _ => rfl) (fun r j z => nomatch z) .nil (hm.bindR.imp (fun r4 hm v H hA => ?_) fun _ q => q)
  exact hm v H _ (hA.weak1 (.d (.d .nil)) fun j z => nomatch z)
theorem ok_one_rule (T : Txt K mg Z) : FnOk P w K mg base (L2.CX P w) 4 Z.f_one_rule Z.d_one_rule ["row", "delay"] (Spec K Z.ec 2 pre_one_rule f_one_rule post_one_rule ret_one_rule) := by
  refine fn_ok T.d_one_rule.F sc_one_rule rfl m_one_rule fun cdv A outer s H E hr => ?_
  refine ⟨_, (pss_cons (ps_set (i := 2) sc_one_rule.nd rfl (Or.inl rfl) (pe_callS (ok_checked_clocks (K := K) T) (hr.mono (by decide)) (by rfl) T.d_checked_clocks.g T.d_checked_clocks.F.kp T.d_checked_clocks.b (fun σ => passAt (takes_of rfl rfl rfl rfl) σ) (pa_cons (pv 0) (pa_cons pe_str pa_nil))))
  (pss_cons (ps_expr (pe_callS (ok_check_delay (K := K) T) (hr.mono (by decide)) (by rfl) T.d_check_delay.g T.d_check_delay.F.kp T.d_check_delay.b (fun σ => passAt (takes_of rfl rfl rfl rfl) σ) (pa_cons (pv 1) (pa_cons pe_str pa_nil))))
  (pss_cons (ps_set (i := 3) sc_one_rule.nd rfl (Or.inl rfl) (pe_callS (ok_first_rule (K := K) T) (hr.mono (by decide)) (by rfl) T.d_first_rule.g T.d_first_rule.F.kp T.d_first_rule.b (fun σ => passAt (takes_of rfl rfl rfl rfl) σ) (pa_cons (pv 2) pa_nil)))
  (pss_cons (ps_ret (pe_ifExp (pt_cmpR p_isN (pv 3) pe_non (nomark _)) pe_non (pe_op (r := rCatA K) op_catA (pe_callS (ok_ruled (K := K) T) (hr.mono (by decide)) (by rfl) T.d_ruled.g T.d_ruled.F.kp T.d_ruled.b (fun σ => passAt (takes_of rfl rfl rfl rfl) σ) (pa_cons (pv 2) (pa_cons (pv 1) (pa_cons (pe_ix (r := rIxT K) ix_tup (pv 3) pe_int (fun _ _ => rfl)) (pa_cons (pe_ix (r := rIxT K) ix_tup (pv 3) pe_int (fun _ _ => rfl)) pa_nil))))) (pe_tup (pa_cons (pe_ix (r := rIxT K) ix_tup (pv 3) pe_int (fun _ _ => rfl)) pa_nil)))))
  pss_nil)))), ?_⟩
  intro a as _
  change BJ K _ [some (.dat (eD a.1)), some (.dat (eD a.2)), none, none] _ _ _ _ _
  refine fun g σ H D hA hm => x_asg ?_
  refine x_call2 ?_
  refine (ev_var rfl) _ _ _ _ _ hA fun v H hA => ?_
  refine ev_str _ _ _ _ _ hA fun v H hA => ?_
  refine f_call [.d (eD a.1), .d (eS ("row" : Str))] (a.1, ("row" : Str)) (fun r => []) hA rfl rfl True.intro (fun as h => match as, h with | [], _ => rfl) (fun _ => rfl) (fun r as h => match as, h with | [], _ => rfl) (fun r j z => nomatch z) .nil (hm.bindR.imp (fun r1 hm v H hA => ?_) fun _ q => q)
  refine f_setgo hA (fun j z => nomatch z) rfl hm ?_
  change BJ K _ [some (.dat (eD a.1)), some (.dat (eD a.2)), some (.dat ((eT (eP2 eS eI)) r1)), none] _ _ _ _ _
  refine fun g σ H D hA hm => x_drop ?_
  refine x_call2 ?_
  refine (ev_var rfl) _ _ _ _ _ hA fun v H hA => ?_
  refine ev_str _ _ _ _ _ hA fun v H hA => ?_
  refine f_call [.d (eD a.2), .d (eS ("delay" : Str))] (a.2, ("delay" : Str)) (fun r => []) hA rfl rfl True.intro (fun as h => match as, h with | [], _ => rfl) (fun _ => rfl) (fun r as h => match as, h with | [], _ => rfl) (fun r j z => nomatch z) .nil (hm.bindR.imp (fun r2 hm v H hA => ?_) fun _ q => q)
  refine f_dropgo hA hm ?_
  change BJ K _ [some (.dat (eD a.1)), some (.dat (eD a.2)), some (.dat ((eT (eP2 eS eI)) r1)), none] _ _ _ _ _
  refine fun g σ H D hA hm => x_asg ?_
  refine x_call1 ?_
  refine (ev_var rfl) _ _ _ _ _ hA fun v H hA => ?_
  refine f_call [.d ((eT (eP2 eS eI)) r1)] r1 (fun r => []) hA rfl rfl True.intro (fun as h => match as, h with | [], _ => rfl) (fun _ => rfl) (fun r as h => match as, h with | [], _ => rfl) (fun r j z => nomatch z) .nil (hm.bindR.imp (fun r3 hm v H hA => ?_) fun _ q => q)
  refine f_setgo hA (fun j z => nomatch z) rfl hm ?_
  change BJ K _ [some (.dat (eD a.1)), some (.dat (eD a.2)), some (.dat ((eT (eP2 eS eI)) r1)), some (.dat ((eO (eP2 eI eS)) r3))] _ _ _ _ _
  refine fun g σ H D hA hm => x_ret ?_
  refine f_joinV (fun (s : (Option ((List (Str × Int)) × Int × Str))) => [some (.dat (eD a.1)), some (.dat (eD a.2)), some (.dat ((eT (eP2 eS eI)) r1)), some (.dat ((eO (eP2 eI eS)) r3))]) (fun s => .dat ((eO (eP3 (eT (eP2 eS eI)) eI eS)) s)) hA hm (fun hm => ?_) (fun j4 v H hA hm => ?_)
  ·
    refine x_if ?_
    refine (evb_test (ev_op (ev_var rfl) ev_non (o2_isN nn_t))) _ _ _ _ _ hA fun H hA => ?_
    refine f_pick hm (fun hm => ?_) (fun hm => ?_)
    ·
      refine ev_non _ _ _ _ _ hA fun v H hA => ?_
      exact hm v H hA
    ·
      refine x_op ?_
      refine x_call4 ?_
      refine (ev_var rfl) _ _ _ _ _ hA fun v H hA => ?_
      refine (ev_var rfl) _ _ _ _ _ hA fun v H hA => ?_
      refine f_int hA hm fun t5 hA hm => ?_
      refine x_op ?_
      refine (ev_var rfl) _ _ _ _ _ hA fun v H hA => ?_
      refine f_get hA hm fun t6 hA hm => ?_
      refine ev_int _ _ _ _ _ hA fun v H hA => ?_
      refine (o2_ixK (p := eI t6.1) rfl) _ _ _ _ _ _ _ hA fun v H hA => ?_
      refine x_op ?_
      refine (ev_var rfl) _ _ _ _ _ hA fun v H hA => ?_
      refine f_get hA hm fun t7 hA hm => ?_
      refine ev_int _ _ _ _ _ hA fun v H hA => ?_
      refine (o2_ixK (p := eS t7.2) rfl) _ _ _ _ _ _ _ hA fun v H hA => ?_
      refine f_call [.d ((eT (eP2 eS eI)) r1), .d (eI t5), .d (eI t6.1), .d (eS t7.2)] (r1, t5, t6.1, t7.2) (fun r => []) hA rfl rfl True.intro (fun as h => match as, h with | [], _ => rfl) (fun _ => rfl) (fun r as h => match as, h with | [], _ => rfl) (fun r j z => nomatch z) .nil (hm.bindR.imp (fun r8 hm v H hA => ?_) fun _ q => q)
      refine x_tup ?_
      refine x_cons ?_
      refine x_op ?_
      refine (ev_var rfl) _ _ _ _ _ hA fun v H hA => ?_
      refine f_get hA hm fun t9 hA hm => ?_
      refine ev_int _ _ _ _ _ hA fun v H hA => ?_
      refine (o2_ixK (p := eS t9.2) rfl) _ _ _ _ _ _ _ hA fun v H hA => ?_
      refine x_nil ?_
      refine f_tup (vs := [_]) [eS t9.2] hA rfl (Nat.le_of_ble_eq_true rfl) fun v H hA => ?_
      refine (o2_catP (ps := [(eT (eP2 eS eI)) r8.1, eI r8.2]) (qs := [eS t9.2]) (Nat.le_of_ble_eq_true rfl)) _ _ _ _ _ _ _ hA fun v H hA => ?_
      exact hm v H hA
  ·
    replace hA : At K g [some (.dat (eD a.1)), some (.dat (eD a.2)), some (.dat ((eT (eP2 eS eI)) r1)), some (.dat ((eO (eP2 eI eS)) r3))] _ _ _ := hA
    exact hm v H _ (hA.weak1 (.d (.d .nil)) fun j z => nomatch z)
theorem ok_rules_at (T : Txt K mg Z) : FnOk P w K mg base (L2.CX P w) 4 Z.f_rules_at Z.d_rules_at ["row"] (Spec K Z.ec 1 pre_rules_at f_rules_at post_rules_at ret_rules_at) := by
  refine fn_ok T.d_rules_at.F sc_rules_at rfl m_rules_at fun cdv A outer s H E hr => ?_
  refine ⟨_, (pss_cons (ps_ret (pe_callS (ok_usable_rules (K := K) T) (hr.mono (by decide)) (by rfl) T.d_usable_rules.g T.d_usable_rules.F.kp T.d_usable_rules.b (fun σ => passAt (takes_of rfl rfl rfl rfl) σ) (pa_cons (pe_callS (ok_checked_clocks (K := K) T) (hr.mono (by decide)) (by rfl) T.d_checked_clocks.g T.d_checked_clocks.F.kp T.d_checked_clocks.b (fun σ => passAt (takes_of rfl rfl rfl rfl) σ) (pa_cons (pv 0) (pa_cons pe_str pa_nil))) pa_nil)))
  pss_nil), ?_⟩
  intro a as _
  change BJ K _ [some (.dat (eD a))] _ _ _ _ _
  refine fun g σ H D hA hm => x_ret ?_
  refine x_call1 ?_
  refine x_call2 ?_
  refine (ev_var rfl) _ _ _ _ _ hA fun v H hA => ?_
  refine ev_str _ _ _ _ _ hA fun v H hA => ?_
  refine f_call [.d (eD a), .d (eS ("row" : Str))] (a, ("row" : Str)) (fun r => []) hA rfl rfl True.intro (fun as h => match as, h with | [], _ => rfl) (fun _ => rfl) (fun r as h => match as, h with | [], _ => rfl) (fun r j z => nomatch z) .nil (hm.bindR.imp (fun r1 hm v H hA => ?_) fun _ q => q)
  refine f_call [.d ((eT (eP2 eS eI)) r1)] r1 (fun r => []) hA rfl rfl True.intro (fun as h => match as, h with | [], _ => rfl) (fun _ => rfl) (fun r as h => match as, h with | [], _ => rfl) (fun r j z => nomatch z) .nil (hm.bindR.imp (fun r2 hm v H hA => ?_) fun _ q => q)
  exact hm v H _ (hA.weak1 (.d .nil) fun j z => nomatch z)
theorem ok_use (T : Txt K mg Z) : FnOk P w K mg base (L2.CX P w) 4 Z.f_use Z.d_use ["row", "delay", "place"] (Spec K Z.ec 3 pre_use f_use post_use ret_use) := by
  refine fn_ok T.d_use.F sc_use rfl m_use fun cdv A outer s H E hr => ?_
  refine ⟨_, (pss_cons (ps_set (i := 3) sc_use.nd rfl (Or.inl rfl) (pe_callS (ok_checked_clocks (K := K) T) (hr.mono (by decide)) (by rfl) T.d_checked_clocks.g T.d_checked_clocks.F.kp T.d_checked_clocks.b (fun σ => passAt (takes_of rfl rfl rfl rfl) σ) (pa_cons (pv 0) (pa_cons pe_str pa_nil))))
  (pss_cons (ps_expr (pe_callS (ok_check_delay (K := K) T) (hr.mono (by decide)) (by rfl) T.d_check_delay.g T.d_check_delay.F.kp T.d_check_delay.b (fun σ => passAt (takes_of rfl rfl rfl rfl) σ) (pa_cons (pv 1) (pa_cons pe_str pa_nil))))
  (pss_cons (ps_for (passes_of rfl) rfl (pi_tup (pe_callS (ok_usable_rules (K := K) T) (hr.mono (by decide)) (by rfl) T.d_usable_rules.g T.d_usable_rules.F.kp T.d_usable_rules.b (fun σ => passAt (takes_of rfl rfl rfl rfl) σ) (pa_cons (pv 3) pa_nil))) (pg_tup rfl (pgs_cons (pg_name (i := 4) sc_use.nd rfl (Or.inl rfl)) (pgs_cons (pg_name (i := 5) sc_use.nd rfl (Or.inl rfl)) pgs_nil))) (pss_cons (ps_if (pw_and (pt_val (pe_callS (ok_is_whole (K := K) T) (hr.mono (by decide)) (by rfl) T.d_is_whole.g T.d_is_whole.F.kp T.d_is_whole.b (fun σ => passAt (takes_of rfl rfl rfl rfl) σ) (pa_cons (pv 2) pa_nil))) (pw_and1 (pt_cmpR (r := rEqD K) (op_eqD hr.units) (pv 4) (pv 2) (nomark _)))).pt (pss_cons (ps_ret (pe_callS (ok_ruled (K := K) T) (hr.mono (by decide)) (by rfl) T.d_ruled.g T.d_ruled.F.kp T.d_ruled.b (fun σ => passAt (takes_of rfl rfl rfl rfl) σ) (pa_cons (pv 3) (pa_cons (pv 1) (pa_cons (pv 4) (pa_cons (pv 5) pa_nil))))))
  pss_nil) pss_nil)
  pss_nil))
  (pss_cons (ps_raise rfl (takes_of rfl rfl rfl rfl) (pmk_oex T.x_BadNumber.oex T.x_BadNumber.iC T.x_BadNumber.tI (ini_BadNumber T) (hr.mono (by decide)) T.x_BadNumber.b .nil passL (by rfl) T.x_BadNumber.g (pa_cons pe_str pa_nil)))
  pss_nil)))), ?_⟩
  intro a as _
  change BJ K _ [some (.dat (eD a.1)), some (.dat (eD a.2.1)), some (.dat (eD a.2.2)), none, none, none] _ _ _ _ _
  refine fun g σ H D hA hm => x_asg ?_
  refine x_call2 ?_
  refine (ev_var rfl) _ _ _ _ _ hA fun v H hA => ?_
  refine ev_str _ _ _ _ _ hA fun v H hA => ?_
  refine f_call [.d (eD a.1), .d (eS ("row" : Str))] (a.1, ("row" : Str)) (fun r => []) hA rfl rfl True.intro (fun as h => match as, h with | [], _ => rfl) (fun _ => rfl) (fun r as h => match as, h with | [], _ => rfl) (fun r j z => nomatch z) .nil (hm.bindR.imp (fun r1 hm v H hA => ?_) fun _ q => q)
  refine f_setgo hA (fun j z => nomatch z) rfl hm ?_
  change BJ K _ [some (.dat (eD a.1)), some (.dat (eD a.2.1)), some (.dat (eD a.2.2)), some (.dat ((eT (eP2 eS eI)) r1)), none, none] _ _ _ _ _
  refine fun g σ H D hA hm => x_drop ?_
  refine x_call2 ?_
  refine (ev_var rfl) _ _ _ _ _ hA fun v H hA => ?_
  refine ev_str _ _ _ _ _ hA fun v H hA => ?_
  refine f_call [.d (eD a.2.1), .d (eS ("delay" : Str))] (a.2.1, ("delay" : Str)) (fun r => []) hA rfl rfl True.intro (fun as h => match as, h with | [], _ => rfl) (fun _ => rfl) (fun r as h => match as, h with | [], _ => rfl) (fun r j z => nomatch z) .nil (hm.bindR.imp (fun r2 hm v H hA => ?_) fun _ q => q)
  refine f_dropgo hA hm ?_
  change BJ K _ [some (.dat (eD a.1)), some (.dat (eD a.2.1)), some (.dat (eD a.2.2)), some (.dat ((eT (eP2 eS eI)) r1)), none, none] _ _ _ _ _
  refine fun g σ H D hA hm => ?_
  refine x_forT ?_
  refine x_call1 ?_
  refine (ev_var rfl) _ _ _ _ _ hA fun v H hA => ?_
  refine f_call [.d ((eT (eP2 eS eI)) r1)] r1 (fun r => []) hA rfl rfl True.intro (fun as h => match as, h with | [], _ => rfl) (fun _ => rfl) (fun r as h => match as, h with | [], _ => rfl) (fun r j z => nomatch z) .nil (hm.bindR.imp (fun r3 hm v H hA => ?_) fun _ q => q)
  refine wk_tup (xs := r3) (e := (eP2 eI eS)) hA (f_for (e := (eP2 eI eS)) (fun (s4 : Unit) => [none, some (.dat (eD a.2.1)), some (.dat (eD a.2.2)), some (.dat ((eT (eP2 eS eI)) r1)), none, none]) (s0 := ()) (.d (.s (.s (.s (.d (.d .nil)))))) hm (hb_of (e := (eP2 eI eS)) (js := [4, 5]) (ps := fun b5 => [eI b5.1, eS b5.2]) (fun b => (tj_tup (tjs_cons tj_name (tjs_cons tj_name tjs_nil)) rfl)) (hjl (n := 6) (fun s => rfl) (by decide)) (fun s4 b5 => ?_)) (fun s4 => ?_))
  ·
    change BJ K _ [none, some (.dat (eD a.2.1)), some (.dat (eD a.2.2)), some (.dat ((eT (eP2 eS eI)) r1)), some (.dat (eI b5.1)), some (.dat (eS b5.2))] _ _ _ _ _
    refine fun g σ H D hA hm => x_ifS ?_
    refine f_joinT (fun (s : Bool) => [none, some (.dat (eD a.2.1)), some (.dat (eD a.2.2)), some (.dat ((eT (eP2 eS eI)) r1)), some (.dat (eI b5.1)), some (.dat (eS b5.2))]) (fun s => s) hA hm (fun hm => ?_) (fun j6 H hA hm => ?_)
    ·
      refine x_andT ?_
      refine x_B ?_
      refine x_call1 ?_
      refine (ev_var rfl) _ _ _ _ _ hA fun v H hA => ?_
      refine f_call [.d (eD a.2.2)] a.2.2 (fun r => []) hA rfl rfl True.intro (fun as h => match as, h with | [], _ => rfl) (fun _ => rfl) (fun r as h => match as, h with | [], _ => rfl) (fun r j z => nomatch z) .nil (hm.bindR.imp (fun r7 hm v H hA => ?_) fun _ q => q)
      refine f_tst (P := fun c H1 => _) hA fun hA => ?_
      refine f_pick hm (fun hm => ?_) (fun hm => ?_)
      ·
        refine x_test ?_
        refine x_op ?_
        refine (ev_var rfl) _ _ _ _ _ hA fun v H hA => ?_
        refine (ev_var rfl) _ _ _ _ _ hA fun v H hA => ?_
        refine f_o2m (o2_eqDM (a := (PyData.int b5.1)) (b := a.2.2) (.dat bx_i) dpt_d) hA hm fun t8 v H hA hm => ?_
        refine f_tst (P := fun c H1 => _) hA fun hA => ?_
        exact hm H hA
      ·
        exact hm H hA
    ·
      replace hA : At K g [none, some (.dat (eD a.2.1)), some (.dat (eD a.2.2)), some (.dat ((eT (eP2 eS eI)) r1)), some (.dat (eI b5.1)), some (.dat (eS b5.2))] _ _ _ := hA
      refine f_ifS hm (fun hm => ?_) (fun hm => ?_)
      ·
        refine bj_go hA hm ?_
        change BJ K _ [none, some (.dat (eD a.2.1)), some (.dat (eD a.2.2)), some (.dat ((eT (eP2 eS eI)) r1)), some (.dat (eI b5.1)), some (.dat (eS b5.2))] _ _ _ _ _
        refine bj_assoc ?_
        refine fun g σ H D hA hm => x_ret ?_
        refine x_call4 ?_
        refine (ev_var rfl) _ _ _ _ _ hA fun v H hA => ?_
        refine (ev_var rfl) _ _ _ _ _ hA fun v H hA => ?_
        refine f_int hA hm fun t9 hA hm => ?_
        refine (ev_var rfl) _ _ _ _ _ hA fun v H hA => ?_
        refine (ev_var rfl) _ _ _ _ _ hA fun v H hA => ?_
        refine f_call [.d ((eT (eP2 eS eI)) r1), .d (eI t9), .d (eI b5.1), .d (eS b5.2)] (r1, t9, b5.1, b5.2) (fun r => []) hA rfl rfl True.intro (fun as h => match as, h with | [], _ => rfl) (fun _ => rfl) (fun r as h => match as, h with | [], _ => rfl) (fun r j z => nomatch z) .nil (hm.bindR.imp (fun r10 hm v H hA => ?_) fun _ q => q)
        exact hm v H _ (hA.weak1 (.d (.d (.d .nil))) fun j z => nomatch z)
      ·
        refine bj_go hA hm ?_
        change BJ K _ [none, some (.dat (eD a.2.1)), some (.dat (eD a.2.2)), some (.dat ((eT (eP2 eS eI)) r1)), some (.dat (eI b5.1)), some (.dat (eS b5.2))] _ _ _ _ _
        refine bj_pass ?_
        exact bj_nx (a := ()) (.d (.s (.s (.s (.d (.d .nil))))))
  ·
    change BJ K _ [none, some (.dat (eD a.2.1)), some (.dat (eD a.2.2)), some (.dat ((eT (eP2 eS eI)) r1)), none, none] _ _ _ _ _
    exact bj_raise1 (cn := "BadNumber") (dv := (PyData.str ("place" : Str))) T.ec_BadNumber T.x_BadNumber.oex (T.x_BadNumber.no _ (by decide)) rfl .nil (ev_box bx_s ev_str)
theorem ok_law_numbers (T : Txt K mg Z) : FnOk P w K mg base (L2.CX P w) 1 Z.f_law_numbers Z.d_law_numbers ["script"] (Spec K Z.ec 1 pre_law_numbers f_law_numbers post_law_numbers ret_law_numbers) := by
  refine fn_ok T.d_law_numbers.F sc_law_numbers rfl m_law_numbers fun cdv A outer s H E hr => ?_
  refine ⟨_, (pss_cons (ps_set (i := 1) sc_law_numbers.nd rfl (Or.inl rfl) (pe_lst pa_nil))
  (pss_cons (ps_for (passes_of rfl) rfl (pi_range1 (by rfl) T.z_range (pa_cons (pe_callB c_min2 (by rfl) T.z_min (by decide +kernel) (pa_cons (pe_callB (r := rLen K) c_len (by rfl) T.z_len (by decide +kernel) (pa_cons (pv 0) pa_nil)) (pa_cons pe_int pa_nil))) pa_nil)) (pg_name (i := 2) sc_law_numbers.nd rfl (Or.inl rfl)) (pss_cons (ps_set (i := 3) sc_law_numbers.nd rfl (Or.inl rfl) (pe_callTy c_int (by rfl) T.z_int (by decide +kernel) (pa_cons (pe_ix (r := rIxL K) ix_list (pv 0) (pv 2) (fun _ _ => rfl)) pa_nil)))
  (pss_cons (ps_set (i := 4) sc_law_numbers.nd rfl (Or.inl rfl) pe_int)
  (pss_cons (ps_if (pt_cmpR op_lt (pv 3) pe_int (nomark _)) (pss_cons (ps_set (i := 3) sc_law_numbers.nd rfl (Or.inl rfl) (pe_op op_sub pe_int (pv 3)))
  (pss_cons (ps_set (i := 4) sc_law_numbers.nd rfl (Or.inl rfl) pe_int)
  pss_nil)) pss_nil)
  (pss_cons (ps_if (pt_cmpR op_ge (pv 3) (pe_op op_pow pe_int pe_int) (nomark _)) (pss_cons (ps_for (passes_of rfl) rfl (pi_range1 (by rfl) T.z_range (pa_cons pe_int pa_nil)) (pg_name (i := 5) sc_law_numbers.nd rfl (Or.inl rfl)) (pss_cons (ps_if (pt_cmpR op_gt (pv 3) pe_int (nomark _)) (pss_cons (ps_expr (pe_bm PySem.F.plainAttrs_list PySem.F.slot_list_append PySem.F.type_list_append mt_append (pv 1) (pa_cons (pe_op op_mod (pe_callTy c_int (by rfl) T.z_int (by decide +kernel) (pa_cons (pv 3) pa_nil)) pe_int) pa_nil)))
  (pss_cons (ps_set (i := 3) sc_law_numbers.nd rfl (Or.inl rfl) (pe_op op_fdiv (pv 3) pe_int))
  pss_nil)) pss_nil)
  pss_nil))
  pss_nil) (pss_cons (ps_set (i := 6) sc_law_numbers.nd rfl (Or.inl rfl) (pe_op op_mod (pe_callTy c_int (by rfl) T.z_int (by decide +kernel) (pa_cons (pe_op op_add (pe_op op_add (pe_op op_add (pe_op op_mul (pv 3) pe_int) (pe_op op_mul (pv 2) pe_int)) (pe_op op_mul (pv 4) pe_int)) pe_int) pa_nil)) pe_int))
  (pss_cons (ps_for (passes_of rfl) rfl (pi_range1 (by rfl) T.z_range (pa_cons pe_int pa_nil)) (pg_name (i := 5) sc_law_numbers.nd rfl (Or.inl rfl)) (pss_cons (ps_set (i := 6) sc_law_numbers.nd rfl (Or.inl rfl) (pe_op op_mod (pe_callTy c_int (by rfl) T.z_int (by decide +kernel) (pa_cons (pe_op op_add (pe_op op_add (pe_op op_mul (pv 6) pe_int) (pe_op op_mul (pe_callTy c_int (by rfl) T.z_int (by decide +kernel) (pa_cons (pe_op op_fdiv (pv 6) pe_int) pa_nil)) (pv 5))) pe_int) pa_nil)) pe_int))
  (pss_cons (ps_expr (pe_bm PySem.F.plainAttrs_list PySem.F.slot_list_append PySem.F.type_list_append mt_append (pv 1) (pa_cons (pe_op op_mod (pe_callTy c_int (by rfl) T.z_int (by decide +kernel) (pa_cons (pe_op op_fdiv (pv 6) pe_int) pa_nil)) pe_int) pa_nil)))
  pss_nil)))
  pss_nil)))
  pss_nil)))))
  (pss_cons (ps_expr (pe_bm0 PySem.F.plainAttrs_list PySem.F.slot_list_reverse PySem.F.type_list_reverse mt_reverse (pv 1)))
  (pss_cons (ps_ret (pv 1))
  pss_nil)))), ?_⟩
  intro a as _
  change BJ K _ [some (.dat ((eL eI) a)), none, none, none, none, none, none] _ _ _ _ _
  refine fun g σ H D hA hm => x_asg ?_
  refine (ev_lst [] ea_nil) _ _ _ _ _ hA fun v H hA => ?_
  refine f_setlt (e := []) (fun t => .own none (.lst (List.map eI t))) hA (fun t j z => nomatch z) rfl hm (fun numbers_1 => ?_)
  change BJ K _ [some (.dat ((eL eI) a)), some (.own none (.lst (List.map eI numbers_1))), none, none, none, none, none] _ _ _ _ _
  refine fun g σ H D hA hm => ?_
  refine x_forR1 ?_
  refine (ev_cb2 (ev_cb1 (ev_var rfl) (o1_lenT a eI (.l .dat))) ev_int o2_min) _ _ _ _ _ hA fun v H hA => ?_
  refine f_rng1 (b := (minI ((a).length : Int) (63 : Int))) hA hm fun hm => f_for (e := eI) (fun (s3 : (List Int)) => [some (.dat ((eL eI) a)), some (.own none (.lst (List.map eI s3))), none, none, none, none, none]) (s0 := numbers_1) (.s (.s (.d (.d (.d (.d (.d .nil))))))) hm (hb_of (e := eI) (js := [2]) (ps := fun b4 => [eI b4]) (fun b => tj_name) (hjl (n := 7) (fun s => rfl) (by decide)) (fun s3 b4 => ?_)) (fun s3 => ?_)
  ·
    change BJ K _ [some (.dat ((eL eI) a)), some (.own none (.lst (List.map eI s3))), some (.dat (eI b4)), none, none, none, none] _ _ _ _ _
    refine fun g σ H D hA hm => x_asg ?_
    refine x_cb1 ?_
    refine x_op ?_
    refine (ev_var rfl) _ _ _ _ _ hA fun v H hA => ?_
    refine (ev_var rfl) _ _ _ _ _ hA fun v H hA => ?_
    refine f_o2m (o2_idxL (xs := a) (e := eI) .dat) hA hm fun t5 v H hA hm => ?_
    refine o1_int _ _ _ _ _ _ hA fun v H hA => ?_
    refine f_setgo hA (fun j z => nomatch z) rfl hm ?_
    change BJ K _ [some (.dat ((eL eI) a)), some (.own none (.lst (List.map eI s3))), some (.dat (eI b4)), some (.dat (eI t5)), none, none, none] _ _ _ _ _
    refine fun g σ H D hA hm => x_asg ?_
    refine ev_int _ _ _ _ _ hA fun v H hA => ?_
    refine f_setlt (e := (0 : Int)) (fun t => .dat (eI t)) hA (fun t j z => nomatch z) rfl hm (fun turned_6 => ?_)
    change BJ K _ [some (.dat ((eL eI) a)), some (.own none (.lst (List.map eI s3))), some (.dat (eI b4)), some (.dat (eI t5)), some (.dat (eI turned_6)), none, none] _ _ _ _ _
    refine bj_seq (n1 := fun (s7 : (Int × Int)) => [some (.dat ((eL eI) a)), some (.own none (.lst (List.map eI s3))), some (.dat (eI b4)), some (.dat (eI s7.1)), some (.dat (eI s7.2)), none, none]) ?_ (fun s7 => ?_)
    ·
      refine bj_if (evb_test (ev_op (ev_var rfl) ev_int o2_c0)) ?_ ?_
      ·
        refine fun g σ H D hA hm => x_asg ?_
        refine (ev_op ev_int (ev_var rfl) o2_i0) _ _ _ _ _ hA fun v H hA => ?_
        refine f_setlt (e := ((0 : Int) - t5)) (fun t => .dat (eI t)) hA (fun t j z => nomatch z) rfl hm (fun cell_8 => ?_)
        change BJ K _ [some (.dat ((eL eI) a)), some (.own none (.lst (List.map eI s3))), some (.dat (eI b4)), some (.dat (eI cell_8)), some (.dat (eI turned_6)), none, none] _ _ _ _ _
        refine fun g σ H D hA hm => x_asg ?_
        refine ev_int _ _ _ _ _ hA fun v H hA => ?_
        refine f_setlt (e := (1 : Int)) (fun t => .dat (eI t)) hA (fun t j z => nomatch z) rfl hm (fun turned_9 => ?_)
        change BJ K _ [some (.dat ((eL eI) a)), some (.own none (.lst (List.map eI s3))), some (.dat (eI b4)), some (.dat (eI cell_8)), some (.dat (eI turned_9)), none, none] _ _ _ _ _
        exact bj_nx (a := (cell_8, turned_9)) (.s (.s (.s (.s (.s (.d (.d .nil)))))))
      ·
        exact bj_nx (a := (t5, turned_6)) (.s (.s (.s (.s (.s (.d (.d .nil)))))))
    ·
      change BJ K _ [some (.dat ((eL eI) a)), some (.own none (.lst (List.map eI s3))), some (.dat (eI b4)), some (.dat (eI s7.1)), some (.dat (eI s7.2)), none, none] _ _ _ _ _
      refine bj_ifL (evb_test (ev_op (ev_var rfl) (ev_op ev_int ev_int o2_powK) o2_c0)) ?_ ?_
      ·
        refine bj_assoc ?_
        refine fun g σ H D hA hm => ?_
        refine x_forR1 ?_
        refine ev_int _ _ _ _ _ hA fun v H hA => ?_
        refine f_rng1 (b := (45 : Int)) hA hm fun hm => f_for (e := eI) (fun (s11 : ((List Int) × Int)) => [some (.dat ((eL eI) a)), some (.own none (.lst (List.map eI s11.1))), none, some (.dat (eI s11.2)), none, none, none]) (s0 := (s3, s7.1)) (.s (.s (.d (.s (.d (.d (.d .nil))))))) hm (hb_of (e := eI) (js := [5]) (ps := fun b12 => [eI b12]) (fun b => tj_name) (hjl (n := 7) (fun s => rfl) (by decide)) (fun s11 b12 => ?_)) (fun s11 => ?_)
        ·
          change BJ K _ [some (.dat ((eL eI) a)), some (.own none (.lst (List.map eI s11.1))), none, some (.dat (eI s11.2)), none, some (.dat (eI b12)), none] _ _ _ _ _
          refine bj_ifL (evb_test (ev_op (ev_var rfl) ev_int o2_c0)) ?_ ?_
          ·
            refine bj_assoc ?_
            refine fun g σ H D hA hm => x_drop ?_
            refine x_app rfl hA fun x H hA => ?_
            refine (ev_op (ev_cb1 (ev_var rfl) o1_int) ev_int o2_modK) _ _ _ _ _ hA fun v H hA => ?_
            refine f_appm (xs := s11.1) (e := eI) rfl hA hm fun ys13 H hA hm => ?_
            refine bj_go hA hm ?_
            change BJ K _ [some (.dat ((eL eI) a)), some (.own none (.lst (List.map eI ys13))), none, some (.dat (eI s11.2)), none, some (.dat (eI b12)), none] _ _ _ _ _
            refine bj_assoc ?_
            refine fun g σ H D hA hm => x_asg ?_
            refine (ev_op (ev_var rfl) ev_int o2_divK) _ _ _ _ _ hA fun v H hA => ?_
            refine f_setlt (e := (s11.2 / (60 : Int))) (fun t => .dat (eI t)) hA (fun t j z => nomatch z) rfl hm (fun cell_14 => ?_)
            change BJ K _ [some (.dat ((eL eI) a)), some (.own none (.lst (List.map eI ys13))), none, some (.dat (eI cell_14)), none, some (.dat (eI b12)), none] _ _ _ _ _
            refine bj_pass ?_
            exact bj_nx (a := (ys13, cell_14)) (.s (.s (.d (.s (.d (.d (.d .nil)))))))
          ·
            refine bj_pass ?_
            exact bj_nx (a := (s11.1, s11.2)) (.s (.s (.d (.s (.d (.d (.d .nil)))))))
        ·
          change BJ K _ [some (.dat ((eL eI) a)), some (.own none (.lst (List.map eI s11.1))), none, some (.dat (eI s11.2)), none, none, none] _ _ _ _ _
          refine bj_pass ?_
          exact bj_nx (a := s11.1) (.s (.s (.d (.d (.d (.d (.d .nil)))))))
      ·
        refine bj_assoc ?_
        refine fun g σ H D hA hm => x_asg ?_
        refine (ev_op (ev_cb1 (ev_op (ev_op (ev_op (ev_op (ev_var rfl) ev_int o2_mulK) (ev_op (ev_var rfl) ev_int o2_mulK) o2_i0) (ev_op (ev_var rfl) ev_int o2_mulK) o2_i0) ev_int o2_i0) o1_int) ev_int o2_modK) _ _ _ _ _ hA fun v H hA => ?_
        refine f_setlt (e := (((((s7.1 * (16807 : Int)) + (b4 * (7919 : Int))) + (s7.2 * (104729 : Int))) + (11 : Int)) % (2147483629 : Int))) (fun t => .dat (eI t)) hA (fun t j z => nomatch z) rfl hm (fun seed_15 => ?_)
        change BJ K _ [some (.dat ((eL eI) a)), some (.own none (.lst (List.map eI s3))), some (.dat (eI b4)), some (.dat (eI s7.1)), some (.dat (eI s7.2)), none, some (.dat (eI seed_15))] _ _ _ _ _
        refine bj_assoc ?_
        refine fun g σ H D hA hm => ?_
        refine x_forR1 ?_
        refine ev_int _ _ _ _ _ hA fun v H hA => ?_
        refine f_rng1 (b := (7 : Int)) hA hm fun hm => f_for (e := eI) (fun (s17 : ((List Int) × Int)) => [some (.dat ((eL eI) a)), some (.own none (.lst (List.map eI s17.1))), none, none, none, none, some (.dat (eI s17.2))]) (s0 := (s3, seed_15)) (.s (.s (.d (.d (.d (.d (.s .nil))))))) hm (hb_of (e := eI) (js := [5]) (ps := fun b18 => [eI b18]) (fun b => tj_name) (hjl (n := 7) (fun s => rfl) (by decide)) (fun s17 b18 => ?_)) (fun s17 => ?_)
        ·
          change BJ K _ [some (.dat ((eL eI) a)), some (.own none (.lst (List.map eI s17.1))), none, none, none, some (.dat (eI b18)), some (.dat (eI s17.2))] _ _ _ _ _
          refine fun g σ H D hA hm => x_asg ?_
          refine x_op ?_
          refine x_cb1 ?_
          refine x_op ?_
          refine x_op ?_
          refine (ev_op (ev_var rfl) ev_int o2_mulK) _ _ _ _ _ hA fun v H hA => ?_
          refine x_op ?_
          refine (ev_cb1 (ev_op (ev_var rfl) ev_int o2_divK) o1_int) _ _ _ _ _ hA fun v H hA => ?_
          refine (ev_var rfl) _ _ _ _ _ hA fun v H hA => ?_
          refine f_o2m o2_mul hA hm fun t19 v H hA hm => ?_
          refine o2_i0 _ _ _ _ _ _ _ hA fun v H hA => ?_
          refine ev_int _ _ _ _ _ hA fun v H hA => ?_
          refine o2_i0 _ _ _ _ _ _ _ hA fun v H hA => ?_
          refine o1_int _ _ _ _ _ _ hA fun v H hA => ?_
          refine ev_int _ _ _ _ _ hA fun v H hA => ?_
          refine (o2_modK) _ _ _ _ _ _ _ hA fun v H hA => ?_
          refine f_setlt (e := ((((s17.2 * (39373 : Int)) + t19) + (7919 : Int)) % (2147483629 : Int))) (fun t => .dat (eI t)) hA (fun t j z => nomatch z) rfl hm (fun seed_20 => ?_)
          change BJ K _ [some (.dat ((eL eI) a)), some (.own none (.lst (List.map eI s17.1))), none, none, none, some (.dat (eI b18)), some (.dat (eI seed_20))] _ _ _ _ _
          refine fun g σ H D hA hm => x_drop ?_
          refine x_app rfl hA fun x H hA => ?_
          refine (ev_op (ev_cb1 (ev_op (ev_var rfl) ev_int o2_divK) o1_int) ev_int o2_modK) _ _ _ _ _ hA fun v H hA => ?_
          refine f_appm (xs := s17.1) (e := eI) rfl hA hm fun ys21 H hA hm => ?_
          refine bj_go hA hm ?_
          change BJ K _ [some (.dat ((eL eI) a)), some (.own none (.lst (List.map eI ys21))), none, none, none, some (.dat (eI b18)), some (.dat (eI seed_20))] _ _ _ _ _
          exact bj_nx (a := (ys21, seed_20)) (.s (.s (.d (.d (.d (.d (.s .nil)))))))
        ·
          change BJ K _ [some (.dat ((eL eI) a)), some (.own none (.lst (List.map eI s17.1))), none, none, none, none, some (.dat (eI s17.2))] _ _ _ _ _
          refine bj_pass ?_
          exact bj_nx (a := s17.1) (.s (.s (.d (.d (.d (.d (.d .nil)))))))
  ·
    change BJ K _ [some (.dat ((eL eI) a)), some (.own none (.lst (List.map eI s3))), none, none, none, none, none] _ _ _ _ _
    refine bj_rev (xs := s3) (e := eI) rfl (fun ys22 => ?_)
    change BJ K _ [some (.dat ((eL eI) a)), some (.own none (.lst (List.map eI ys22))), none, none, none, none, none] _ _ _ _ _
    exact bj_retO (r := ys22) (i := 1) rfl rfl (.d .nil)
theorem ok_law_draw (T : Txt K mg Z) : FnOk P w K mg base (L2.CX P w) 1 Z.f_law_draw Z.d_law_draw ["numbers", "many"] (Spec K Z.ec 2 pre_law_draw f_law_draw post_law_draw ret_law_draw) := by
  refine fn_ok T.d_law_draw.F sc_law_draw rfl m_law_draw fun cdv A outer s H E hr => ?_
  refine ⟨_, (pss_cons (ps_if (pt_cmpR op_eq (pe_callB (r := rLen K) c_len (by rfl) T.z_len (by decide +kernel) (pa_cons (pv 0) pa_nil)) pe_int (nomark _)) (pss_cons (ps_ret pe_int)
  pss_nil) pss_nil)
  (pss_cons (ps_ret (pe_op op_mod (pe_callTy c_int (by rfl) T.z_int (by decide +kernel) (pa_cons (pe_bm0 PySem.F.plainAttrs_list PySem.F.slot_list_pop PySem.F.type_list_pop mt_pop (pv 0)) pa_nil)) (pv 1)))
  pss_nil)), ?_⟩
  intro a as _
  change BJ K _ [some (.own (as[0]?) (.lst (List.map eI a.1))), some (.dat (eI a.2))] _ _ _ _ _
  refine bj_ifL (evb_test (ev_op (ev_cb1 (ev_own rfl) (o1_lenT a.1 eI (.l (.als rfl)))) ev_int o2_eqI)) ?_ ?_
  ·
    refine bj_assoc ?_
    refine fun g σ H D hA hm => x_ret ?_
    refine ev_int _ _ _ _ _ hA fun v H hA => ?_
    exact hm v H _ (hA.weak1 (.s (.d .nil)) fun j z => nomatch z)
  ·
    refine bj_pass ?_
    refine fun g σ H D hA hm => x_ret ?_
    refine x_op ?_
    refine x_cb1 ?_
    refine f_popm (xs := a.1) (e := eI) rfl hA hm fun t1 v H hA hm => ?_
    replace hA : At K g [some (.own (as[0]?) (.lst (List.map eI t1.2))), some (.dat (eI a.2))] _ _ _ := hA
    refine o1_int _ _ _ _ _ _ hA fun v H hA => ?_
    refine (ev_var rfl) _ _ _ _ _ hA fun v H hA => ?_
    refine f_o2m o2_mod hA hm fun t2 v H hA hm => ?_
    exact hm v H _ (hA.weak1 (.s (.d .nil)) fun j z => nomatch z)
theorem ok_law_int (T : Txt K mg Z) : FnOk P w K mg base (L2.CX P w) 1 Z.f_law_int Z.d_law_int ["value"] (Spec K Z.ec 1 pre_law_int f_law_int post_law_int ret_law_int) := by
  refine fn_ok T.d_law_int.F sc_law_int rfl m_law_int fun cdv A outer s H E hr => ?_
  refine ⟨_, (pss_cons (ps_ret (pe_and (pe_callB (r := rIsi K) call_isi (by rfl) T.z_isinstance (by decide +kernel) (pa_cons (pv 0) (pa_cons (pe_bltn (v := .ty "int") (u := .type "int") (by rfl) T.z_int (by decide +kernel) rfl) pa_nil))) (pe_one (pe_not (pe_callB (r := rIsi K) call_isi (by rfl) T.z_isinstance (by decide +kernel) (pa_cons (pv 0) (pa_cons (pe_bltn (v := .ty "bool") (u := .type "bool") (by rfl) T.z_bool (by decide +kernel) rfl) pa_nil)))))))
  pss_nil), ?_⟩
  intro a as _
  change BJ K _ [some (.dat (eD a))] _ _ _ _ _
  refine fun g σ H D hA hm => x_ret ?_
  refine (ev_andV (ev_isi (d := a) .int (ev_var rfl) dpt_d) (ev_notV (ev_isi (d := a) .bool (ev_var rfl) dpt_d))) _ _ _ _ _ hA fun v H hA => ?_
  exact hm v H _ (hA.weak1 (.d .nil) fun j z => nomatch z)
theorem ok_law_bits_ok (T : Txt K mg Z) : FnOk P w K mg base (L2.CX P w) 2 Z.f_law_bits_ok Z.d_law_bits_ok ["row", "many"] (Spec K Z.ec 2 pre_law_bits_ok f_law_bits_ok post_law_bits_ok ret_law_bits_ok) := by
  refine fn_ok T.d_law_bits_ok.F sc_law_bits_ok rfl m_law_bits_ok fun cdv A outer s H E hr => ?_
  refine ⟨_, (pss_cons (ps_if (pw_or (pt_not (pt_val (pe_callB (r := rIsi K) call_isi (by rfl) T.z_isinstance (by decide +kernel) (pa_cons (pv 0) (pa_cons (pe_bltn (v := .ty "tuple") (u := .type "tuple") (by rfl) T.z_tuple (by decide +kernel) rfl) pa_nil))))) (pw_or1 (pt_cmpR op_ne (pe_callB (r := rLen K) c_len (by rfl) T.z_len (by decide +kernel) (pa_cons (pv 0) pa_nil)) (pv 1) (nomark _)))).pt (pss_cons (ps_ret pe_bl)
  pss_nil) pss_nil)
  (pss_cons (ps_for (passes_of rfl) rfl (pi_tup (pv 0)) (pg_name (i := 2) sc_law_bits_ok.nd rfl (Or.inl rfl)) (pss_cons (ps_if (pw_or (pt_not (pt_val (pe_callS (ok_law_int (K := K) T) (hr.mono (by decide)) (by rfl) T.d_law_int.g T.d_law_int.F.kp T.d_law_int.b (fun σ => passAt (takes_of rfl rfl rfl rfl) σ) (pa_cons (pv 2) pa_nil)))) (pw_or (pt_cmpR op_lt (pv 2) pe_int (nomark _)) (pw_or1 (pt_cmpR op_gt (pv 2) pe_int (nomark _))))).pt (pss_cons (ps_ret pe_bl)
  pss_nil) pss_nil)
  pss_nil))
  (pss_cons (ps_ret pe_bl)
  pss_nil))), ?_⟩
  intro a as _
  change BJ K _ [some (.dat ((eT eI) a.1)), some (.dat (eI a.2)), none] _ _ _ _ _
  refine bj_ifL (evb_or (evb_not (evb_B (ev_isi (d := ((dT PyData.int) a.1)) .tuple (ev_var rfl) (.dat (bx_t bx_i))))) (evb_test (ev_op (ev_cb1 (ev_var rfl) (o1_lenT a.1 eI .t)) (ev_var rfl) o2_neI))) ?_ ?_
  ·
    refine bj_assoc ?_
    refine fun g σ H D hA hm => x_ret ?_
    refine ev_bl _ _ _ _ _ hA fun v H hA => ?_
    exact hm v H _ (hA.weak1 (.d (.d .nil)) fun j z => nomatch z)
  ·
    refine bj_pass ?_
    refine fun g σ H D hA hm => ?_
    refine x_forT ?_
    refine (ev_var rfl) _ _ _ _ _ hA fun v H hA => ?_
    refine wk_tup (xs := a.1) (e := eI) hA (f_for (e := eI) (fun (s1 : Unit) => [none, none, none]) (s0 := ()) (.d (.d (.d .nil))) hm (hb_of (e := eI) (js := [2]) (ps := fun b2 => [eI b2]) (fun b => tj_name) (hjl (n := 3) (fun s => rfl) (by decide)) (fun s1 b2 => ?_)) (fun s1 => ?_))
    ·
      change BJ K _ [none, none, some (.dat (eI b2))] _ _ _ _ _
      refine fun g σ H D hA hm => x_ifS ?_
      refine f_joinT (fun (s : Bool) => [none, none, some (.dat (eI b2))]) (fun s => s) hA hm (fun hm => ?_) (fun j3 H hA hm => ?_)
      ·
        refine x_orT ?_
        refine x_not ?_
        refine x_B ?_
        refine x_call1 ?_
        refine (ev_var rfl) _ _ _ _ _ hA fun v H hA => ?_
        replace hA := hA.box (Bx.hd (x := b2) bx_i)
        refine f_call [.d (eD (PyData.int b2))] (PyData.int b2) (fun r => []) hA rfl rfl True.intro (fun as h => match as, h with | [], _ => rfl) (fun _ => rfl) (fun r as h => match as, h with | [], _ => rfl) (fun r j z => nomatch z) .nil (hm.bindR.imp (fun r4 hm v H hA => ?_) fun _ q => q)
        refine f_tst (P := fun c H1 => _) hA fun hA => ?_
        refine f_pick hm (fun hm => ?_) (fun hm => ?_)
        ·
          exact hm H hA
        ·
          refine x_orT ?_
          refine (evb_test (ev_op (ev_var rfl) ev_int o2_c0)) _ _ _ _ _ hA fun H hA => ?_
          refine f_pick hm (fun hm => ?_) (fun hm => ?_)
          ·
            exact hm H hA
          ·
            refine (evb_test (ev_op (ev_var rfl) ev_int o2_c0)) _ _ _ _ _ hA fun H hA => ?_
            exact hm H hA
      ·
        replace hA : At K g [none, none, some (.dat (eI b2))] _ _ _ := hA
        refine f_ifS hm (fun hm => ?_) (fun hm => ?_)
        ·
          refine bj_go hA hm ?_
          change BJ K _ [none, none, some (.dat (eI b2))] _ _ _ _ _
          refine bj_assoc ?_
          refine fun g σ H D hA hm => x_ret ?_
          refine ev_bl _ _ _ _ _ hA fun v H hA => ?_
          exact hm v H _ (hA.weak1 (.d (.d .nil)) fun j z => nomatch z)
        ·
          refine bj_go hA hm ?_
          change BJ K _ [none, none, some (.dat (eI b2))] _ _ _ _ _
          refine bj_pass ?_
          exact bj_nx (a := ()) (.d (.d (.d .nil)))
    ·
      change BJ K _ [none, none, none] _ _ _ _ _
      refine fun g σ H D hA hm => x_ret ?_
      refine ev_bl _ _ _ _ _ hA fun v H hA => ?_
      exact hm v H _ (hA.weak1 (.d (.d .nil)) fun j z => nomatch z)
theorem ok_law_clocks (T : Txt K mg Z) : FnOk P w K mg base (L2.CX P w) 2 Z.f_law_clocks Z.d_law_clocks ["numbers"] (Spec K Z.ec 1 pre_law_clocks f_law_clocks post_law_clocks ret_law_clocks) := by
  refine fn_ok T.d_law_clocks.F sc_law_clocks rfl m_law_clocks fun cdv A outer s H E hr => ?_
  refine ⟨_, (pss_cons (ps_set (i := 1) sc_law_clocks.nd rfl (Or.inl rfl) (pe_ix (r := rIxL K) ix_list (pe_lst (pa_cons pe_int (pa_cons pe_int (pa_cons pe_int (pa_cons pe_int (pa_cons pe_int (pa_cons pe_int (pa_cons pe_int (pa_cons pe_int (pa_cons pe_int (pa_cons pe_int (pa_cons pe_int (pa_cons pe_int pa_nil))))))))))))) (pe_callS (ok_law_draw (K := K) T) (hr.mono (by decide)) (by rfl) T.d_law_draw.g T.d_law_draw.F.kp T.d_law_draw.b (fun σ => passAt (takes_of rfl rfl rfl rfl) σ) (pa_cons (pv 0) (pa_cons pe_int pa_nil))) (fun _ _ => rfl)))
  (pss_cons (ps_set (i := 2) sc_law_clocks.nd rfl (Or.inl rfl) (pe_ix (r := rIxL K) ix_list (pe_lst (pa_cons pe_int (pa_cons pe_int (pa_cons pe_int (pa_cons pe_int pa_nil))))) (pe_callS (ok_law_draw (K := K) T) (hr.mono (by decide)) (by rfl) T.d_law_draw.g T.d_law_draw.F.kp T.d_law_draw.b (fun σ => passAt (takes_of rfl rfl rfl rfl) σ) (pa_cons (pv 0) (pa_cons pe_int pa_nil))) (fun _ _ => rfl)))
  (pss_cons (ps_set (i := 3) sc_law_clocks.nd rfl (Or.inl rfl) (pe_callS (ok_law_draw (K := K) T) (hr.mono (by decide)) (by rfl) T.d_law_draw.g T.d_law_draw.F.kp T.d_law_draw.b (fun σ => passAt (takes_of rfl rfl rfl rfl) σ) (pa_cons (pv 0) (pa_cons pe_int pa_nil))))
  (pss_cons (ps_set (i := 4) sc_law_clocks.nd rfl (Or.inl rfl) (pe_lst (pa_cons pe_str (pa_cons pe_str pa_nil))))
  (pss_cons (ps_set (i := 5) sc_law_clocks.nd rfl (Or.inl rfl) (pe_callS (ok_law_draw (K := K) T) (hr.mono (by decide)) (by rfl) T.d_law_draw.g T.d_law_draw.F.kp T.d_law_draw.b (fun σ => passAt (takes_of rfl rfl rfl rfl) σ) (pa_cons (pv 0) (pa_cons pe_int pa_nil))))
  (pss_cons (ps_set (i := 6) sc_law_clocks.nd rfl (Or.inl rfl) (pe_lst pa_nil))
  (pss_cons (ps_for (passes_of rfl) rfl (pi_range1 (by rfl) T.z_range (pa_cons (pv 1) pa_nil)) (pg_name (i := 7) sc_law_clocks.nd rfl (Or.inl rfl)) (pss_cons (ps_if (pt_cmpR op_eq (pv 3) pe_int (nomark _)) (pss_cons (ps_set (i := 5) sc_law_clocks.nd rfl (Or.inl rfl) (pe_callS (ok_law_draw (K := K) T) (hr.mono (by decide)) (by rfl) T.d_law_draw.g T.d_law_draw.F.kp T.d_law_draw.b (fun σ => passAt (takes_of rfl rfl rfl rfl) σ) (pa_cons (pv 0) (pa_cons pe_int pa_nil))))
  pss_nil) pss_nil)
  (pss_cons (ps_expr (pe_bm PySem.F.plainAttrs_list PySem.F.slot_list_append PySem.F.type_list_append mt_append (pv 6) (pa_cons (pe_tup (pa_cons (pe_ix (r := rIxL K) ix_list (pv 4) (pv 5) (fun _ _ => rfl)) (pa_cons (pe_callS (ok_law_draw (K := K) T) (hr.mono (by decide)) (by rfl) T.d_law_draw.g T.d_law_draw.F.kp T.d_law_draw.b (fun σ => passAt (takes_of rfl rfl rfl rfl) σ) (pa_cons (pv 0) (pa_cons (pv 2) pa_nil))) pa_nil))) pa_nil)))
  (pss_cons (ps_set (i := 5) sc_law_clocks.nd rfl (Or.inl rfl) (pe_op op_sub pe_int (pv 5)))
  pss_nil))))
  (pss_cons (ps_ret (pe_callTy (r := rTuple K) c_tuple (by rfl) T.z_tuple (by decide +kernel) (pa_cons (pv 6) pa_nil)))
  pss_nil)))))))), ?_⟩
  intro a as _
  change BJ K _ [some (.own (as[0]?) (.lst (List.map eI a))), none, none, none, none, none, none, none] _ _ _ _ _
  refine fun g σ H D hA hm => x_asg ?_
  refine x_op ?_
  refine (ev_lst [eI (1 : Int), eI (2 : Int), eI (3 : Int), eI (3 : Int), eI (4 : Int), eI (5 : Int), eI (6 : Int), eI (7 : Int), eI (8 : Int), eI (3 : Int), eI (4 : Int), eI (0 : Int)] (ea_cons ev_int (ea_cons ev_int (ea_cons ev_int (ea_cons ev_int (ea_cons ev_int (ea_cons ev_int (ea_cons ev_int (ea_cons ev_int (ea_cons ev_int (ea_cons ev_int (ea_cons ev_int (ea_cons ev_int ea_nil))))))))))))) _ _ _ _ _ hA fun v H hA => ?_
  refine x_call2 ?_
  refine (ev_own rfl) _ _ _ _ _ hA fun v H hA => ?_
  refine ev_int _ _ _ _ _ hA fun v H hA => ?_
  refine f_call [.o 0 (as[0]?) (.lst (List.map eI a)), .d (eI (12 : Int))] (a, (12 : Int)) (fun r => [.lst (List.map eI r.2)]) hA rfl rfl ⟨rfl, True.intro⟩ (fun as h => match as, h with | [_], _ => rfl) (fun _ => rfl) (fun r as h => match as, h with | [_], _ => rfl) (fun r j z => nomatch z) .nil (hm.bindR.imp (fun r1 hm v H hA => ?_) fun _ q => q)
  replace hA : At K g [some (.own (as[0]?) (.lst (List.map eI r1.2))), none, none, none, none, none, none, none] _ _ _ := hA
  refine f_o2m (o2_idxL (xs := [(1 : Int), (2 : Int), (3 : Int), (3 : Int), (4 : Int), (5 : Int), (6 : Int), (7 : Int), (8 : Int), (3 : Int), (4 : Int), (0 : Int)]) (e := eI) .own) hA hm fun t2 v H hA hm => ?_
  refine f_setgo hA (fun j z => nomatch z) rfl hm ?_
  change BJ K _ [some (.own (as[0]?) (.lst (List.map eI r1.2))), some (.dat (eI t2)), none, none, none, none, none, none] _ _ _ _ _
  refine fun g σ H D hA hm => x_asg ?_
  refine x_op ?_
  refine (ev_lst [eI (5 : Int), eI (13 : Int), eI (61 : Int), eI (4 : Int)] (ea_cons ev_int (ea_cons ev_int (ea_cons ev_int (ea_cons ev_int ea_nil))))) _ _ _ _ _ hA fun v H hA => ?_
  refine x_call2 ?_
  refine (ev_own rfl) _ _ _ _ _ hA fun v H hA => ?_
  refine ev_int _ _ _ _ _ hA fun v H hA => ?_
  refine f_call [.o 0 (as[0]?) (.lst (List.map eI r1.2)), .d (eI (4 : Int))] (r1.2, (4 : Int)) (fun r => [.lst (List.map eI r.2)]) hA rfl rfl ⟨rfl, True.intro⟩ (fun as h => match as, h with | [_], _ => rfl) (fun _ => rfl) (fun r as h => match as, h with | [_], _ => rfl) (fun r j z => nomatch z) .nil (hm.bindR.imp (fun r3 hm v H hA => ?_) fun _ q => q)
  replace hA : At K g [some (.own (as[0]?) (.lst (List.map eI r3.2))), some (.dat (eI t2)), none, none, none, none, none, none] _ _ _ := hA
  refine f_o2m (o2_idxL (xs := [(5 : Int), (13 : Int), (61 : Int), (4 : Int)]) (e := eI) .own) hA hm fun t4 v H hA hm => ?_
  refine f_setgo hA (fun j z => nomatch z) rfl hm ?_
  change BJ K _ [some (.own (as[0]?) (.lst (List.map eI r3.2))), some (.dat (eI t2)), some (.dat (eI t4)), none, none, none, none, none] _ _ _ _ _
  refine fun g σ H D hA hm => x_asg ?_
  refine x_call2 ?_
  refine (ev_own rfl) _ _ _ _ _ hA fun v H hA => ?_
  refine ev_int _ _ _ _ _ hA fun v H hA => ?_
  refine f_call [.o 0 (as[0]?) (.lst (List.map eI r3.2)), .d (eI (3 : Int))] (r3.2, (3 : Int)) (fun r => [.lst (List.map eI r.2)]) hA rfl rfl ⟨rfl, True.intro⟩ (fun as h => match as, h with | [_], _ => rfl) (fun _ => rfl) (fun r as h => match as, h with | [_], _ => rfl) (fun r j z => nomatch z) .nil (hm.bindR.imp (fun r5 hm v H hA => ?_) fun _ q => q)
  replace hA : At K g [some (.own (as[0]?) (.lst (List.map eI r5.2))), some (.dat (eI t2)), some (.dat (eI t4)), none, none, none, none, none] _ _ _ := hA
  refine f_setgo hA (fun j z => nomatch z) rfl hm ?_
  change BJ K _ [some (.own (as[0]?) (.lst (List.map eI r5.2))), some (.dat (eI t2)), some (.dat (eI t4)), some (.dat (eI r5.1)), none, none, none, none] _ _ _ _ _
  refine fun g σ H D hA hm => x_asg ?_
  refine (ev_lst [eS ("on" : Str), eS ("off" : Str)] (ea_cons ev_str (ea_cons ev_str ea_nil))) _ _ _ _ _ hA fun v H hA => ?_
  replace hA := hA.frz
  refine f_setlt (e := [("on" : Str), ("off" : Str)]) (fun t => .dat ((eL eS) t)) hA (fun t j z => nomatch z) rfl hm (fun kinds_6 => ?_)
  change BJ K _ [some (.own (as[0]?) (.lst (List.map eI r5.2))), some (.dat (eI t2)), some (.dat (eI t4)), some (.dat (eI r5.1)), some (.dat ((eL eS) kinds_6)), none, none, none] _ _ _ _ _
  refine fun g σ H D hA hm => x_asg ?_
  refine x_call2 ?_
  refine (ev_own rfl) _ _ _ _ _ hA fun v H hA => ?_
  refine ev_int _ _ _ _ _ hA fun v H hA => ?_
  refine f_call [.o 0 (as[0]?) (.lst (List.map eI r5.2)), .d (eI (2 : Int))] (r5.2, (2 : Int)) (fun r => [.lst (List.map eI r.2)]) hA rfl rfl ⟨rfl, True.intro⟩ (fun as h => match as, h with | [_], _ => rfl) (fun _ => rfl) (fun r as h => match as, h with | [_], _ => rfl) (fun r j z => nomatch z) .nil (hm.bindR.imp (fun r7 hm v H hA => ?_) fun _ q => q)
  replace hA : At K g [some (.own (as[0]?) (.lst (List.map eI r7.2))), some (.dat (eI t2)), some (.dat (eI t4)), some (.dat (eI r5.1)), some (.dat ((eL eS) kinds_6)), none, none, none] _ _ _ := hA
  refine f_setgo hA (fun j z => nomatch z) rfl hm ?_
  change BJ K _ [some (.own (as[0]?) (.lst (List.map eI r7.2))), some (.dat (eI t2)), some (.dat (eI t4)), some (.dat (eI r5.1)), some (.dat ((eL eS) kinds_6)), some (.dat (eI r7.1)), none, none] _ _ _ _ _
  refine fun g σ H D hA hm => x_asg ?_
  refine (ev_lst [] ea_nil) _ _ _ _ _ hA fun v H hA => ?_
  refine f_setlt (e := []) (fun t => .own none (.lst (List.map (eP2 eS eI) t))) hA (fun t j z => nomatch z) rfl hm (fun row_8 => ?_)
  change BJ K _ [some (.own (as[0]?) (.lst (List.map eI r7.2))), some (.dat (eI t2)), some (.dat (eI t4)), some (.dat (eI r5.1)), some (.dat ((eL eS) kinds_6)), some (.dat (eI r7.1)), some (.own none (.lst (List.map (eP2 eS eI) row_8))), none] _ _ _ _ _
  refine fun g σ H D hA hm => ?_
  refine x_forR1 ?_
  refine (ev_var rfl) _ _ _ _ _ hA fun v H hA => ?_
  refine f_rng1 (b := t2) hA hm fun hm => f_for (e := eI) (fun (s10 : ((List Int) × Int × (List (Str × Int)))) => [some (.own (as[0]?) (.lst (List.map eI s10.1))), none, some (.dat (eI t4)), some (.dat (eI r5.1)), some (.dat ((eL eS) kinds_6)), some (.dat (eI s10.2.1)), some (.own none (.lst (List.map (eP2 eS eI) s10.2.2))), none]) (s0 := (r7.2, r7.1, row_8)) (.s (.d (.s (.s (.s (.s (.s (.d .nil)))))))) hm (hb_of (e := eI) (js := [7]) (ps := fun b11 => [eI b11]) (fun b => tj_name) (hjl (n := 8) (fun s => rfl) (by decide)) (fun s10 b11 => ?_)) (fun s10 => ?_)
  ·
    change BJ K _ [some (.own (as[0]?) (.lst (List.map eI s10.1))), none, some (.dat (eI t4)), some (.dat (eI r5.1)), some (.dat ((eL eS) kinds_6)), some (.dat (eI s10.2.1)), some (.own none (.lst (List.map (eP2 eS eI) s10.2.2))), some (.dat (eI b11))] _ _ _ _ _
    refine bj_seq (n1 := fun (s12 : ((List Int) × Int)) => [some (.own (as[0]?) (.lst (List.map eI s12.1))), none, some (.dat (eI t4)), some (.dat (eI r5.1)), some (.dat ((eL eS) kinds_6)), some (.dat (eI s12.2)), some (.own none (.lst (List.map (eP2 eS eI) s10.2.2))), none]) ?_ (fun s12 => ?_)
    ·
      refine bj_if (evb_test (ev_op (ev_var rfl) ev_int o2_eqI)) ?_ ?_
      ·
        refine fun g σ H D hA hm => x_asg ?_
        refine x_call2 ?_
        refine (ev_own rfl) _ _ _ _ _ hA fun v H hA => ?_
        refine ev_int _ _ _ _ _ hA fun v H hA => ?_
        refine f_call [.o 0 (as[0]?) (.lst (List.map eI s10.1)), .d (eI (2 : Int))] (s10.1, (2 : Int)) (fun r => [.lst (List.map eI r.2)]) hA rfl rfl ⟨rfl, True.intro⟩ (fun as h => match as, h with | [_], _ => rfl) (fun _ => rfl) (fun r as h => match as, h with | [_], _ => rfl) (fun r j z => nomatch z) .nil (hm.bindR.imp (fun r13 hm v H hA => ?_) fun _ q => q)
        replace hA : At K g [some (.own (as[0]?) (.lst (List.map eI r13.2))), none, some (.dat (eI t4)), some (.dat (eI r5.1)), some (.dat ((eL eS) kinds_6)), some (.dat (eI s10.2.1)), some (.own none (.lst (List.map (eP2 eS eI) s10.2.2))), some (.dat (eI b11))] _ _ _ := hA
        refine f_setgo hA (fun j z => nomatch z) rfl hm ?_
        change BJ K _ [some (.own (as[0]?) (.lst (List.map eI r13.2))), none, some (.dat (eI t4)), some (.dat (eI r5.1)), some (.dat ((eL eS) kinds_6)), some (.dat (eI r13.1)), some (.own none (.lst (List.map (eP2 eS eI) s10.2.2))), some (.dat (eI b11))] _ _ _ _ _
        exact bj_nx (a := (r13.2, r13.1)) (.s (.d (.s (.s (.s (.s (.s (.d .nil))))))))
      ·
        exact bj_nx (a := (s10.1, s10.2.1)) (.s (.d (.s (.s (.s (.s (.s (.d .nil))))))))
    ·
      change BJ K _ [some (.own (as[0]?) (.lst (List.map eI s12.1))), none, some (.dat (eI t4)), some (.dat (eI r5.1)), some (.dat ((eL eS) kinds_6)), some (.dat (eI s12.2)), some (.own none (.lst (List.map (eP2 eS eI) s10.2.2))), none] _ _ _ _ _
      refine fun g σ H D hA hm => x_drop ?_
      refine x_app rfl hA fun x H hA => ?_
      refine x_tup ?_
      refine x_cons ?_
      refine x_op ?_
      refine (ev_var rfl) _ _ _ _ _ hA fun v H hA => ?_
      refine (ev_var rfl) _ _ _ _ _ hA fun v H hA => ?_
      refine f_o2m (o2_idxL (xs := kinds_6) (e := eS) .dat) hA hm fun t14 v H hA hm => ?_
      refine x_cons ?_
      refine x_call2 ?_
      refine (ev_own rfl) _ _ _ _ _ hA fun v H hA => ?_
      refine (ev_var rfl) _ _ _ _ _ hA fun v H hA => ?_
      refine f_call [.o 0 (as[0]?) (.lst (List.map eI s12.1)), .d (eI t4)] (s12.1, t4) (fun r => [.lst (List.map eI r.2)]) hA rfl rfl ⟨rfl, True.intro⟩ (fun as h => match as, h with | [_], _ => rfl) (fun _ => rfl) (fun r as h => match as, h with | [_], _ => rfl) (fun r j z => nomatch z) .nil (hm.bindR.imp (fun r15 hm v H hA => ?_) fun _ q => q)
      replace hA : At K g [some (.own (as[0]?) (.lst (List.map eI r15.2))), none, some (.dat (eI t4)), some (.dat (eI r5.1)), some (.dat ((eL eS) kinds_6)), some (.dat (eI s12.2)), some (.own none (.lst (List.map (eP2 eS eI) s10.2.2))), none] _ _ _ := hA
      refine x_nil ?_
      refine f_tup (vs := [_, _]) [eS t14, eI r15.1] hA rfl (Nat.le_of_ble_eq_true rfl) fun v H hA => ?_
      refine f_appm (xs := s10.2.2) (e := (eP2 eS eI)) rfl hA hm fun ys16 H hA hm => ?_
      refine bj_go hA hm ?_
      change BJ K _ [some (.own (as[0]?) (.lst (List.map eI r15.2))), none, some (.dat (eI t4)), some (.dat (eI r5.1)), some (.dat ((eL eS) kinds_6)), some (.dat (eI s12.2)), some (.own none (.lst (List.map (eP2 eS eI) ys16))), none] _ _ _ _ _
      refine fun g σ H D hA hm => x_asg ?_
      refine (ev_op ev_int (ev_var rfl) o2_i0) _ _ _ _ _ hA fun v H hA => ?_
      refine f_setlt (e := ((1 : Int) - s12.2)) (fun t => .dat (eI t)) hA (fun t j z => nomatch z) rfl hm (fun side_17 => ?_)
      change BJ K _ [some (.own (as[0]?) (.lst (List.map eI r15.2))), none, some (.dat (eI t4)), some (.dat (eI r5.1)), some (.dat ((eL eS) kinds_6)), some (.dat (eI side_17)), some (.own none (.lst (List.map (eP2 eS eI) ys16))), none] _ _ _ _ _
      exact bj_nx (a := (r15.2, side_17, ys16)) (.s (.d (.s (.s (.s (.s (.s (.d .nil))))))))
  ·
    change BJ K _ [some (.own (as[0]?) (.lst (List.map eI s10.1))), none, some (.dat (eI t4)), some (.dat (eI r5.1)), some (.dat ((eL eS) kinds_6)), some (.dat (eI s10.2.1)), some (.own none (.lst (List.map (eP2 eS eI) s10.2.2))), none] _ _ _ _ _
    refine fun g σ H D hA hm => x_ret ?_
    refine (ev_cb1 (ev_own rfl) (o1_tuple (.l (.als rfl)))) _ _ _ _ _ hA fun v H hA => ?_
    exact hm v H _ (hA.weak1 (.s .nil) fun j z => nomatch z)
theorem ok_law_runs (T : Txt K mg Z) : FnOk P w K mg base (L2.CX P w) 2 Z.f_law_runs Z.d_law_runs ["numbers"] (Spec K Z.ec 1 pre_law_runs f_law_runs post_law_runs ret_law_runs) := by
  refine fn_ok T.d_law_runs.F sc_law_runs rfl m_law_runs fun cdv A outer s H E hr => ?_
  refine ⟨_, (pss_cons (ps_set (i := 1) sc_law_runs.nd rfl (Or.inl rfl) (pe_lst pa_nil))
  (pss_cons (ps_set (i := 2) sc_law_runs.nd rfl (Or.inl rfl) (pe_callS (ok_law_draw (K := K) T) (hr.mono (by decide)) (by rfl) T.d_law_draw.g T.d_law_draw.F.kp T.d_law_draw.b (fun σ => passAt (takes_of rfl rfl rfl rfl) σ) (pa_cons (pv 0) (pa_cons pe_int pa_nil))))
  (pss_cons (ps_set (i := 3) sc_law_runs.nd rfl (Or.inl rfl) (pe_ix (r := rIxL K) ix_list (pe_lst (pa_cons pe_int (pa_cons pe_int (pa_cons pe_int pa_nil)))) (pe_callS (ok_law_draw (K := K) T) (hr.mono (by decide)) (by rfl) T.d_law_draw.g T.d_law_draw.F.kp T.d_law_draw.b (fun σ => passAt (takes_of rfl rfl rfl rfl) σ) (pa_cons (pv 0) (pa_cons pe_int pa_nil))) (fun _ _ => rfl)))
  (pss_cons (ps_for (passes_of rfl) rfl (pi_range1 (by rfl) T.z_range (pa_cons (pe_op op_add pe_int (pe_callS (ok_law_draw (K := K) T) (hr.mono (by decide)) (by rfl) T.d_law_draw.g T.d_law_draw.F.kp T.d_law_draw.b (fun σ => passAt (takes_of rfl rfl rfl rfl) σ) (pa_cons (pv 0) (pa_cons pe_int pa_nil)))) pa_nil)) (pg_name (i := 4) sc_law_runs.nd rfl (Or.inl rfl)) (pss_cons (ps_set (i := 1) sc_law_runs.nd rfl (Or.inl rfl) (pe_op (r := rCatS K) op_catS (pv 1) (pe_op op_rep (pe_lst (pa_cons (pv 2) pa_nil)) (pe_op op_add pe_int (pe_callS (ok_law_draw (K := K) T) (hr.mono (by decide)) (by rfl) T.d_law_draw.g T.d_law_draw.F.kp T.d_law_draw.b (fun σ => passAt (takes_of rfl rfl rfl rfl) σ) (pa_cons (pv 0) (pa_cons (pv 3) pa_nil)))))))
  (pss_cons (ps_set (i := 2) sc_law_runs.nd rfl (Or.inl rfl) (pe_op op_sub pe_int (pv 2)))
  pss_nil)))
  (pss_cons (ps_ret (pe_callTy (r := rTuple K) c_tuple (by rfl) T.z_tuple (by decide +kernel) (pa_cons (pe_slice (r := rSlL K) sl_list (pv 1) po_none (po_some pe_int)) pa_nil)))
  pss_nil))))), ?_⟩
  intro a as _
  change BJ K _ [some (.own (as[0]?) (.lst (List.map eI a))), none, none, none, none] _ _ _ _ _
  refine fun g σ H D hA hm => x_asg ?_
  refine (ev_lst [] ea_nil) _ _ _ _ _ hA fun v H hA => ?_
  replace hA := hA.frz
  refine f_setlt (e := []) (fun t => .dat ((eL eI) t)) hA (fun t j z => nomatch z) rfl hm (fun bits_1 => ?_)
  change BJ K _ [some (.own (as[0]?) (.lst (List.map eI a))), some (.dat ((eL eI) bits_1)), none, none, none] _ _ _ _ _
  refine fun g σ H D hA hm => x_asg ?_
  refine x_call2 ?_
  refine (ev_own rfl) _ _ _ _ _ hA fun v H hA => ?_
  refine ev_int _ _ _ _ _ hA fun v H hA => ?_
  refine f_call [.o 0 (as[0]?) (.lst (List.map eI a)), .d (eI (2 : Int))] (a, (2 : Int)) (fun r => [.lst (List.map eI r.2)]) hA rfl rfl ⟨rfl, True.intro⟩ (fun as h => match as, h with | [_], _ => rfl) (fun _ => rfl) (fun r as h => match as, h with | [_], _ => rfl) (fun r j z => nomatch z) .nil (hm.bindR.imp (fun r2 hm v H hA => ?_) fun _ q => q)
  replace hA : At K g [some (.own (as[0]?) (.lst (List.map eI r2.2))), some (.dat ((eL eI) bits_1)), none, none, none] _ _ _ := hA
  refine f_setgo hA (fun j z => nomatch z) rfl hm ?_
  change BJ K _ [some (.own (as[0]?) (.lst (List.map eI r2.2))), some (.dat ((eL eI) bits_1)), some (.dat (eI r2.1)), none, none] _ _ _ _ _
  refine fun g σ H D hA hm => x_asg ?_
  refine x_op ?_
  refine (ev_lst [eI (4 : Int), eI (14 : Int), eI (40 : Int)] (ea_cons ev_int (ea_cons ev_int (ea_cons ev_int ea_nil)))) _ _ _ _ _ hA fun v H hA => ?_
  refine x_call2 ?_
  refine (ev_own rfl) _ _ _ _ _ hA fun v H hA => ?_
  refine ev_int _ _ _ _ _ hA fun v H hA => ?_
  refine f_call [.o 0 (as[0]?) (.lst (List.map eI r2.2)), .d (eI (3 : Int))] (r2.2, (3 : Int)) (fun r => [.lst (List.map eI r.2)]) hA rfl rfl ⟨rfl, True.intro⟩ (fun as h => match as, h with | [_], _ => rfl) (fun _ => rfl) (fun r as h => match as, h with | [_], _ => rfl) (fun r j z => nomatch z) .nil (hm.bindR.imp (fun r3 hm v H hA => ?_) fun _ q => q)
  replace hA : At K g [some (.own (as[0]?) (.lst (List.map eI r3.2))), some (.dat ((eL eI) bits_1)), some (.dat (eI r2.1)), none, none] _ _ _ := hA
  refine f_o2m (o2_idxL (xs := [(4 : Int), (14 : Int), (40 : Int)]) (e := eI) .own) hA hm fun t4 v H hA hm => ?_
  refine f_setgo hA (fun j z => nomatch z) rfl hm ?_
  change BJ K _ [some (.own (as[0]?) (.lst (List.map eI r3.2))), some (.dat ((eL eI) bits_1)), some (.dat (eI r2.1)), some (.dat (eI t4)), none] _ _ _ _ _
  refine fun g σ H D hA hm => ?_
  refine x_forR1 ?_
  refine x_op ?_
  refine ev_int _ _ _ _ _ hA fun v H hA => ?_
  refine x_call2 ?_
  refine (ev_own rfl) _ _ _ _ _ hA fun v H hA => ?_
  refine ev_int _ _ _ _ _ hA fun v H hA => ?_
  refine f_call [.o 0 (as[0]?) (.lst (List.map eI r3.2)), .d (eI (12 : Int))] (r3.2, (12 : Int)) (fun r => [.lst (List.map eI r.2)]) hA rfl rfl ⟨rfl, True.intro⟩ (fun as h => match as, h with | [_], _ => rfl) (fun _ => rfl) (fun r as h => match as, h with | [_], _ => rfl) (fun r j z => nomatch z) .nil (hm.bindR.imp (fun r5 hm v H hA => ?_) fun _ q => q)
  replace hA : At K g [some (.own (as[0]?) (.lst (List.map eI r5.2))), some (.dat ((eL eI) bits_1)), some (.dat (eI r2.1)), some (.dat (eI t4)), none] _ _ _ := hA
  refine o2_i0 _ _ _ _ _ _ _ hA fun v H hA => ?_
  refine f_rng1 (b := ((2 : Int) + r5.1)) hA hm fun hm => f_for (e := eI) (fun (s7 : ((List Int) × (List Int) × Int)) => [some (.own (as[0]?) (.lst (List.map eI s7.1))), some (.dat ((eL eI) s7.2.1)), some (.dat (eI s7.2.2)), some (.dat (eI t4)), none]) (s0 := (r5.2, bits_1, r2.1)) (.s (.s (.s (.s (.d .nil))))) hm (hb_of (e := eI) (js := [4]) (ps := fun b8 => [eI b8]) (fun b => tj_name) (hjl (n := 5) (fun s => rfl) (by decide)) (fun s7 b8 => ?_)) (fun s7 => ?_)
  ·
    change BJ K _ [some (.own (as[0]?) (.lst (List.map eI s7.1))), some (.dat ((eL eI) s7.2.1)), some (.dat (eI s7.2.2)), some (.dat (eI t4)), some (.dat (eI b8))] _ _ _ _ _
    refine fun g σ H D hA hm => x_asg ?_
    refine x_op ?_
    refine (ev_var rfl) _ _ _ _ _ hA fun v H hA => ?_
    refine x_op ?_
    refine (ev_lst [eI s7.2.2] (ea_cons (ev_var rfl) ea_nil)) _ _ _ _ _ hA fun v H hA => ?_
    refine x_op ?_
    refine ev_int _ _ _ _ _ hA fun v H hA => ?_
    refine x_call2 ?_
    refine (ev_own rfl) _ _ _ _ _ hA fun v H hA => ?_
    refine (ev_var rfl) _ _ _ _ _ hA fun v H hA => ?_
    refine f_call [.o 0 (as[0]?) (.lst (List.map eI s7.1)), .d (eI t4)] (s7.1, t4) (fun r => [.lst (List.map eI r.2)]) hA rfl rfl ⟨rfl, True.intro⟩ (fun as h => match as, h with | [_], _ => rfl) (fun _ => rfl) (fun r as h => match as, h with | [_], _ => rfl) (fun r j z => nomatch z) .nil (hm.bindR.imp (fun r9 hm v H hA => ?_) fun _ q => q)
    replace hA : At K g [some (.own (as[0]?) (.lst (List.map eI r9.2))), some (.dat ((eL eI) s7.2.1)), some (.dat (eI s7.2.2)), some (.dat (eI t4)), some (.dat (eI b8))] _ _ _ := hA
    refine o2_i0 _ _ _ _ _ _ _ hA fun v H hA => ?_
    refine f_o2m (o2_repL (xs := [s7.2.2]) (e := eI) .own) hA hm fun t10 v H hA hm => ?_
    refine f_o2m (o2_catS (xs := s7.2.1) (ys := t10) (e := eI) .dat .own) hA hm fun t11 v H hA hm => ?_
    replace hA := hA.frz
    refine f_setgo hA (fun j z => nomatch z) rfl hm ?_
    change BJ K _ [some (.own (as[0]?) (.lst (List.map eI r9.2))), some (.dat ((eL eI) t11)), some (.dat (eI s7.2.2)), some (.dat (eI t4)), some (.dat (eI b8))] _ _ _ _ _
    refine fun g σ H D hA hm => x_asg ?_
    refine (ev_op ev_int (ev_var rfl) o2_i0) _ _ _ _ _ hA fun v H hA => ?_
    refine f_setlt (e := ((1 : Int) - s7.2.2)) (fun t => .dat (eI t)) hA (fun t j z => nomatch z) rfl hm (fun bit_12 => ?_)
    change BJ K _ [some (.own (as[0]?) (.lst (List.map eI r9.2))), some (.dat ((eL eI) t11)), some (.dat (eI bit_12)), some (.dat (eI t4)), some (.dat (eI b8))] _ _ _ _ _
    exact bj_nx (a := (r9.2, t11, bit_12)) (.s (.s (.s (.s (.d .nil)))))
  ·
    change BJ K _ [some (.own (as[0]?) (.lst (List.map eI s7.1))), some (.dat ((eL eI) s7.2.1)), some (.dat (eI s7.2.2)), some (.dat (eI t4)), none] _ _ _ _ _
    refine fun g σ H D hA hm => x_ret ?_
    refine (ev_cb1 (ev_slice (ev_var rfl) evo_none (evo_some ev_int) (o1_cutLT (xs := s7.2.1) (e := eI) .dat)) (o1_tuple (.l .own))) _ _ _ _ _ hA fun v H hA => ?_
    exact hm v H _ (hA.weak1 (.s .nil) fun j z => nomatch z)
theorem ok_law_out (T : Txt K mg Z) : FnOk P w K mg base (L2.CX P w) 1 Z.f_law_out Z.d_law_out ["row", "delay", "bits"] (Spec K Z.ec 3 pre_law_out f_law_out post_law_out ret_law_out) := by
  refine fn_ok T.d_law_out.F sc_law_out rfl m_law_out fun cdv A outer s H E hr => ?_
  refine ⟨_, (pss_cons (ps_set (i := 3) sc_law_out.nd rfl (Or.inl rfl) (pe_callTy (r := rList K) c_list (by rfl) T.z_list (by decide +kernel) (pa_cons (pv 2) pa_nil)))
  (pss_cons (ps_for (passes_of rfl) rfl (pi_tup (pv 0)) (pg_tup rfl (pgs_cons (pg_name (i := 4) sc_law_out.nd rfl (Or.inl rfl)) (pgs_cons (pg_name (i := 5) sc_law_out.nd rfl (Or.inl rfl)) pgs_nil))) (pss_cons (ps_set (i := 6) sc_law_out.nd rfl (Or.inl rfl) (pe_callTy c_int (by rfl) T.z_int (by decide +kernel) (pa_cons (pe_cmpR op_eq (pv 4) pe_str (nomark _)) pa_nil)))
  (pss_cons (ps_set (i := 7) sc_law_out.nd rfl (Or.inl rfl) pe_int)
  (pss_cons (ps_if (pt_cmpR op_eq (pv 4) pe_str (nomark _)) (pss_cons (ps_set (i := 7) sc_law_out.nd rfl (Or.inl rfl) (pv 5))
  pss_nil) pss_nil)
  (pss_cons (ps_set (i := 8) sc_law_out.nd rfl (Or.inl rfl) (pe_lst pa_nil))
  (pss_cons (ps_for (passes_of rfl) rfl (pi_list (pv 3)) (pg_name (i := 9) sc_law_out.nd rfl (Or.inl rfl)) (pss_cons (ps_if (pt_cmpR op_eq (pv 9) (pv 6) (nomark _)) (pss_cons (ps_set (i := 7) sc_law_out.nd rfl (Or.inl rfl) (pe_op op_add (pv 7) pe_int))
  pss_nil) (pss_cons (ps_set (i := 7) sc_law_out.nd rfl (Or.inl rfl) pe_int)
  pss_nil))
  (pss_cons (ps_if (pt_cmpR op_gt (pv 7) (pv 5) (nomark _)) (pss_cons (ps_expr (pe_bm PySem.F.plainAttrs_list PySem.F.slot_list_append PySem.F.type_list_append mt_append (pv 8) (pa_cons (pv 6) pa_nil)))
  pss_nil) (pss_cons (ps_expr (pe_bm PySem.F.plainAttrs_list PySem.F.slot_list_append PySem.F.type_list_append mt_append (pv 8) (pa_cons (pe_op op_sub pe_int (pv 6)) pa_nil)))
  pss_nil))
  pss_nil)))
  (pss_cons (ps_set (i := 3) sc_law_out.nd rfl (Or.inl rfl) (pe_callTy (r := rList K) c_list (by rfl) T.z_list (by decide +kernel) (pa_cons (pv 8) pa_nil)))
  pss_nil)))))))
  (pss_cons (ps_ret (pe_callTy (r := rTuple K) c_tuple (by rfl) T.z_tuple (by decide +kernel) (pa_cons (pe_slice (r := rSlL K) sl_list (pe_op (r := rCatS K) op_catS (pe_op op_rep (pe_lst (pa_cons pe_int pa_nil)) (pv 1)) (pv 3)) po_none (po_some (pe_callB (r := rLen K) c_len (by rfl) T.z_len (by decide +kernel) (pa_cons (pv 2) pa_nil)))) pa_nil)))
  pss_nil))), ?_⟩
  intro a as _
  change BJ K _ [some (.dat ((eT (eP2 eS eI)) a.1)), some (.dat (eI a.2.1)), some (.dat ((eT eI) a.2.2)), none, none, none, none, none, none, none] _ _ _ _ _
  refine fun g σ H D hA hm => x_asg ?_
  refine (ev_cb1 (ev_var rfl) (o1_list .t)) _ _ _ _ _ hA fun v H hA => ?_
  replace hA := hA.frz
  refine f_setgo hA (fun j z => nomatch z) rfl hm ?_
  change BJ K _ [some (.dat ((eT (eP2 eS eI)) a.1)), some (.dat (eI a.2.1)), some (.dat ((eT eI) a.2.2)), some (.dat ((eL eI) a.2.2)), none, none, none, none, none, none] _ _ _ _ _
  refine fun g σ H D hA hm => ?_
  refine x_forT ?_
  refine (ev_var rfl) _ _ _ _ _ hA fun v H hA => ?_
  refine wk_tup (xs := a.1) (e := (eP2 eS eI)) hA (f_for (e := (eP2 eS eI)) (fun (s1 : (List Int)) => [none, some (.dat (eI a.2.1)), some (.dat ((eT eI) a.2.2)), some (.dat ((eL eI) s1)), none, none, none, none, none, none]) (s0 := a.2.2) (.d (.s (.s (.s (.d (.d (.d (.d (.d (.d .nil)))))))))) hm (hb_of (e := (eP2 eS eI)) (js := [4, 5]) (ps := fun b2 => [eS b2.1, eI b2.2]) (fun b => (tj_tup (tjs_cons tj_name (tjs_cons tj_name tjs_nil)) rfl)) (hjl (n := 10) (fun s => rfl) (by decide)) (fun s1 b2 => ?_)) (fun s1 => ?_))
  ·
    change BJ K _ [none, some (.dat (eI a.2.1)), some (.dat ((eT eI) a.2.2)), some (.dat ((eL eI) s1)), some (.dat (eS b2.1)), some (.dat (eI b2.2)), none, none, none, none] _ _ _ _ _
    refine fun g σ H D hA hm => x_asg ?_
    refine (ev_cb1 (ev_op (ev_var rfl) ev_str o2_eqS) o1_intB) _ _ _ _ _ hA fun v H hA => ?_
    refine f_setlt (e := (if (decide (b2.1 = ("on" : Str))) then (1 : Int) else 0)) (fun t => .dat (eI t)) hA (fun t j z => nomatch z) rfl hm (fun wanted_3 => ?_)
    change BJ K _ [none, some (.dat (eI a.2.1)), some (.dat ((eT eI) a.2.2)), some (.dat ((eL eI) s1)), some (.dat (eS b2.1)), some (.dat (eI b2.2)), some (.dat (eI wanted_3)), none, none, none] _ _ _ _ _
    refine fun g σ H D hA hm => x_asg ?_
    refine ev_int _ _ _ _ _ hA fun v H hA => ?_
    refine f_setlt (e := (0 : Int)) (fun t => .dat (eI t)) hA (fun t j z => nomatch z) rfl hm (fun run_4 => ?_)
    change BJ K _ [none, some (.dat (eI a.2.1)), some (.dat ((eT eI) a.2.2)), some (.dat ((eL eI) s1)), some (.dat (eS b2.1)), some (.dat (eI b2.2)), some (.dat (eI wanted_3)), some (.dat (eI run_4)), none, none] _ _ _ _ _
    refine bj_seq (n1 := fun (s5 : Int) => [none, some (.dat (eI a.2.1)), some (.dat ((eT eI) a.2.2)), some (.dat ((eL eI) s1)), none, some (.dat (eI b2.2)), some (.dat (eI wanted_3)), some (.dat (eI s5)), none, none]) ?_ (fun s5 => ?_)
    ·
      refine bj_if (evb_test (ev_op (ev_var rfl) ev_str o2_eqS)) ?_ ?_
      ·
        refine fun g σ H D hA hm => x_asg ?_
        refine (ev_var rfl) _ _ _ _ _ hA fun v H hA => ?_
        refine f_setgo hA (fun j z => nomatch z) rfl hm ?_
        change BJ K _ [none, some (.dat (eI a.2.1)), some (.dat ((eT eI) a.2.2)), some (.dat ((eL eI) s1)), some (.dat (eS b2.1)), some (.dat (eI b2.2)), some (.dat (eI wanted_3)), some (.dat (eI b2.2)), none, none] _ _ _ _ _
        exact bj_nx (a := b2.2) (.d (.s (.s (.s (.d (.s (.s (.s (.d (.d .nil))))))))))
      ·
        exact bj_nx (a := run_4) (.d (.s (.s (.s (.d (.s (.s (.s (.d (.d .nil))))))))))
    ·
      change BJ K _ [none, some (.dat (eI a.2.1)), some (.dat ((eT eI) a.2.2)), some (.dat ((eL eI) s1)), none, some (.dat (eI b2.2)), some (.dat (eI wanted_3)), some (.dat (eI s5)), none, none] _ _ _ _ _
      refine fun g σ H D hA hm => x_asg ?_
      refine (ev_lst [] ea_nil) _ _ _ _ _ hA fun v H hA => ?_
      refine f_setlt (e := []) (fun t => .own none (.lst (List.map eI t))) hA (fun t j z => nomatch z) rfl hm (fun worked_6 => ?_)
      change BJ K _ [none, some (.dat (eI a.2.1)), some (.dat ((eT eI) a.2.2)), some (.dat ((eL eI) s1)), none, some (.dat (eI b2.2)), some (.dat (eI wanted_3)), some (.dat (eI s5)), some (.own none (.lst (List.map eI worked_6))), none] _ _ _ _ _
      refine fun g σ H D hA hm => ?_
      refine x_forL ?_
      refine (ev_var rfl) _ _ _ _ _ hA fun v H hA => ?_
      refine wk_list (xs := s1) (e := eI) hA (f_for (e := eI) (fun (s7 : (Int × (List Int))) => [none, some (.dat (eI a.2.1)), some (.dat ((eT eI) a.2.2)), none, none, some (.dat (eI b2.2)), some (.dat (eI wanted_3)), some (.dat (eI s7.1)), some (.own none (.lst (List.map eI s7.2))), none]) (s0 := (s5, worked_6)) (.d (.s (.s (.d (.d (.s (.s (.s (.s (.d .nil)))))))))) hm (hb_of (e := eI) (js := [9]) (ps := fun b8 => [eI b8]) (fun b => tj_name) (hjl (n := 10) (fun s => rfl) (by decide)) (fun s7 b8 => ?_)) (fun s7 => ?_))
      ·
        change BJ K _ [none, some (.dat (eI a.2.1)), some (.dat ((eT eI) a.2.2)), none, none, some (.dat (eI b2.2)), some (.dat (eI wanted_3)), some (.dat (eI s7.1)), some (.own none (.lst (List.map eI s7.2))), some (.dat (eI b8))] _ _ _ _ _
        refine bj_seq (n1 := fun (s9 : Int) => [none, some (.dat (eI a.2.1)), some (.dat ((eT eI) a.2.2)), none, none, some (.dat (eI b2.2)), some (.dat (eI wanted_3)), some (.dat (eI s9)), some (.own none (.lst (List.map eI s7.2))), none]) ?_ (fun s9 => ?_)
        ·
          refine bj_if (evb_test (ev_op (ev_var rfl) (ev_var rfl) o2_eqI)) ?_ ?_
          ·
            refine fun g σ H D hA hm => x_asg ?_
            refine (ev_op (ev_var rfl) ev_int o2_i0) _ _ _ _ _ hA fun v H hA => ?_
            refine f_setlt (e := (s7.1 + (1 : Int))) (fun t => .dat (eI t)) hA (fun t j z => nomatch z) rfl hm (fun run_10 => ?_)
            change BJ K _ [none, some (.dat (eI a.2.1)), some (.dat ((eT eI) a.2.2)), none, none, some (.dat (eI b2.2)), some (.dat (eI wanted_3)), some (.dat (eI run_10)), some (.own none (.lst (List.map eI s7.2))), some (.dat (eI b8))] _ _ _ _ _
            exact bj_nx (a := run_10) (.d (.s (.s (.d (.d (.s (.s (.s (.s (.d .nil))))))))))
          ·
            refine fun g σ H D hA hm => x_asg ?_
            refine ev_int _ _ _ _ _ hA fun v H hA => ?_
            refine f_setlt (e := (0 : Int)) (fun t => .dat (eI t)) hA (fun t j z => nomatch z) rfl hm (fun run_11 => ?_)
            change BJ K _ [none, some (.dat (eI a.2.1)), some (.dat ((eT eI) a.2.2)), none, none, some (.dat (eI b2.2)), some (.dat (eI wanted_3)), some (.dat (eI run_11)), some (.own none (.lst (List.map eI s7.2))), some (.dat (eI b8))] _ _ _ _ _
            exact bj_nx (a := run_11) (.d (.s (.s (.d (.d (.s (.s (.s (.s (.d .nil))))))))))
        ·
          change BJ K _ [none, some (.dat (eI a.2.1)), some (.dat ((eT eI) a.2.2)), none, none, some (.dat (eI b2.2)), some (.dat (eI wanted_3)), some (.dat (eI s9)), some (.own none (.lst (List.map eI s7.2))), none] _ _ _ _ _
          refine bj_ifL (evb_test (ev_op (ev_var rfl) (ev_var rfl) o2_c0)) ?_ ?_
          ·
            refine bj_assoc ?_
            refine fun g σ H D hA hm => x_drop ?_
            refine x_app rfl hA fun x H hA => ?_
            refine (ev_var rfl) _ _ _ _ _ hA fun v H hA => ?_
            refine f_appm (xs := s7.2) (e := eI) rfl hA hm fun ys12 H hA hm => ?_
            refine bj_go hA hm ?_
            change BJ K _ [none, some (.dat (eI a.2.1)), some (.dat ((eT eI) a.2.2)), none, none, some (.dat (eI b2.2)), some (.dat (eI wanted_3)), some (.dat (eI s9)), some (.own none (.lst (List.map eI ys12))), none] _ _ _ _ _
            refine bj_pass ?_
            exact bj_nx (a := (s9, ys12)) (.d (.s (.s (.d (.d (.s (.s (.s (.s (.d .nil))))))))))
          ·
            refine bj_assoc ?_
            refine fun g σ H D hA hm => x_drop ?_
            refine x_app rfl hA fun x H hA => ?_
            refine (ev_op ev_int (ev_var rfl) o2_i0) _ _ _ _ _ hA fun v H hA => ?_
            refine f_appm (xs := s7.2) (e := eI) rfl hA hm fun ys13 H hA hm => ?_
            refine bj_go hA hm ?_
            change BJ K _ [none, some (.dat (eI a.2.1)), some (.dat ((eT eI) a.2.2)), none, none, some (.dat (eI b2.2)), some (.dat (eI wanted_3)), some (.dat (eI s9)), some (.own none (.lst (List.map eI ys13))), none] _ _ _ _ _
            refine bj_pass ?_
            exact bj_nx (a := (s9, ys13)) (.d (.s (.s (.d (.d (.s (.s (.s (.s (.d .nil))))))))))
      ·
        change BJ K _ [none, some (.dat (eI a.2.1)), some (.dat ((eT eI) a.2.2)), none, none, some (.dat (eI b2.2)), some (.dat (eI wanted_3)), some (.dat (eI s7.1)), some (.own none (.lst (List.map eI s7.2))), none] _ _ _ _ _
        refine fun g σ H D hA hm => x_asg ?_
        refine (ev_cb1 (ev_own rfl) (o1_list (.l (.als rfl)))) _ _ _ _ _ hA fun v H hA => ?_
        replace hA := hA.frz
        refine f_setgo hA (fun j z => nomatch z) rfl hm ?_
        change BJ K _ [none, some (.dat (eI a.2.1)), some (.dat ((eT eI) a.2.2)), some (.dat ((eL eI) s7.2)), none, some (.dat (eI b2.2)), some (.dat (eI wanted_3)), some (.dat (eI s7.1)), some (.own none (.lst (List.map eI s7.2))), none] _ _ _ _ _
        exact bj_nx (a := s7.2) (.d (.s (.s (.s (.d (.d (.d (.d (.d (.d .nil))))))))))
  ·
    change BJ K _ [none, some (.dat (eI a.2.1)), some (.dat ((eT eI) a.2.2)), some (.dat ((eL eI) s1)), none, none, none, none, none, none] _ _ _ _ _
    refine fun g σ H D hA hm => x_ret ?_
    refine x_cb1 ?_
    refine x_sl ?_
    refine x_op ?_
    refine x_op ?_
    refine (ev_lst [eI (0 : Int)] (ea_cons ev_int ea_nil)) _ _ _ _ _ hA fun v H hA => ?_
    refine (ev_var rfl) _ _ _ _ _ hA fun v H hA => ?_
    refine f_o2m (o2_repL (xs := [(0 : Int)]) (e := eI) .own) hA hm fun t14 v H hA hm => ?_
    refine (ev_var rfl) _ _ _ _ _ hA fun v H hA => ?_
    refine f_o2m (o2_catS (xs := t14) (ys := s1) (e := eI) .own .dat) hA hm fun t15 v H hA hm => ?_
    refine evo_none _ _ _ _ _ hA fun H hA => ?_
    refine (evo_some (ev_cb1 (ev_var rfl) (o1_lenT a.2.2 eI .t))) _ _ _ _ _ hA fun H hA => ?_
    refine (o1_cutLT (xs := t15) (e := eI) .own) _ _ _ _ _ _ hA fun v H hA => ?_
    refine o1_tuple (.l .own) _ _ _ _ _ _ hA fun v H hA => ?_
    exact hm v H _ (hA.weak1 (.d (.d (.d .nil))) fun j z => nomatch z)
theorem ok_law_rule (T : Txt K mg Z) : FnOk P w K mg base (L2.CX P w) 1 Z.f_law_rule Z.d_law_rule ["row", "place"] (Spec K Z.ec 2 pre_law_rule f_law_rule post_law_rule ret_law_rule) := by
  refine fn_ok T.d_law_rule.F sc_law_rule rfl m_law_rule fun cdv A outer s H E hr => ?_
  refine ⟨_, (pss_cons (ps_asg (pe_ix (r := rIxT K) ix_tup (pv 0) (pv 1) (fun _ _ => rfl)) (pg_tup rfl (pgs_cons (pg_name (i := 2) sc_law_rule.nd rfl (Or.inl rfl)) (pgs_cons (pg_name (i := 3) sc_law_rule.nd rfl (Or.inl rfl)) pgs_nil))))
  (pss_cons (ps_if (pt_cmpR op_eq (pv 3) pe_int (nomark _)) (pss_cons (ps_ret pe_str)
  pss_nil) pss_nil)
  (pss_cons (ps_if (pw_and (pt_cmpR op_lt (pe_op op_add (pv 1) pe_int) (pe_callB (r := rLen K) c_len (by rfl) T.z_len (by decide +kernel) (pa_cons (pv 0) pa_nil)) (nomark _)) (pw_and1 (pt_cmpR op_eq (pe_ix (r := rIxT K) ix_tup (pe_ix (r := rIxT K) ix_tup (pv 0) (pe_op op_add (pv 1) pe_int) (fun _ _ => rfl)) pe_int (fun _ _ => rfl)) (pv 2) (nomark _)))).pt (pss_cons (ps_ret pe_str)
  pss_nil) pss_nil)
  (pss_cons (ps_if (pw_and (pt_cmpR op_lt (pe_op op_add (pv 1) pe_int) (pe_callB (r := rLen K) c_len (by rfl) T.z_len (by decide +kernel) (pa_cons (pv 0) pa_nil)) (nomark _)) (pw_and (pt_cmpR op_eq (pe_ix (r := rIxT K) ix_tup (pe_ix (r := rIxT K) ix_tup (pv 0) (pe_op op_add (pv 1) pe_int) (fun _ _ => rfl)) pe_int (fun _ _ => rfl)) (pv 2) (nomark _)) (pw_and1 (pt_cmpR op_le (pe_ix (r := rIxT K) ix_tup (pe_ix (r := rIxT K) ix_tup (pv 0) (pe_op op_add (pv 1) pe_int) (fun _ _ => rfl)) pe_int (fun _ _ => rfl)) (pv 3) (nomark _))))).pt (pss_cons (ps_if (pt_cmpR op_le (pe_ix (r := rIxT K) ix_tup (pe_ix (r := rIxT K) ix_tup (pv 0) (pe_op op_add (pv 1) pe_int) (fun _ _ => rfl)) pe_int (fun _ _ => rfl)) (pe_ix (r := rIxT K) ix_tup (pe_ix (r := rIxT K) ix_tup (pv 0) (pe_op op_add (pv 1) pe_int) (fun _ _ => rfl)) pe_int (fun _ _ => rfl)) (nomark _)) (pss_cons (ps_ret pe_str)
  pss_nil) pss_nil)
  (pss_cons (ps_ret pe_str)
  pss_nil)) pss_nil)
  (pss_cons (ps_ret pe_str)
  pss_nil))))), ?_⟩
  intro a as _
  change BJ K _ [some (.dat ((eT (eP2 eS eI)) a.1)), some (.dat (eI a.2)), none, none] _ _ _ _ _
  refine fun g σ H D hA hm => x_asg ?_
  refine x_op ?_
  refine (ev_var rfl) _ _ _ _ _ hA fun v H hA => ?_
  refine (ev_var rfl) _ _ _ _ _ hA fun v H hA => ?_
  refine f_o2m (o2_idxT (xs := a.1) (e := (eP2 eS eI))) hA hm fun t1 v H hA hm => ?_
  refine (tj_tup (tjs_cons tj_name (tjs_cons tj_name tjs_nil)) rfl).2 _ _ _ _ _ _ _ (hjl (sT := Unit) (Gl := fun _ => [some (.dat ((eT (eP2 eS eI)) a.1)), some (.dat (eI a.2)), none, none]) (js := [2, 3]) (n := 4) (fun _ => rfl) (by decide) ()) (by intro y hy; cases hy) hA fun vs H _ hA => ?_
  replace hA : At K g [some (.dat ((eT (eP2 eS eI)) a.1)), some (.dat (eI a.2)), some (.dat (eS t1.1)), some (.dat (eI t1.2))] _ _ _ := hA
  refine bj_go hA hm ?_
  refine bj_ifL (evb_test (ev_op (ev_var rfl) ev_int o2_eqI)) ?_ ?_
  ·
    refine bj_assoc ?_
    refine fun g σ H D hA hm => x_ret ?_
    refine ev_str _ _ _ _ _ hA fun v H hA => ?_
    exact hm v H _ (hA.weak1 (.d (.d .nil)) fun j z => nomatch z)
  ·
    refine bj_pass ?_
    refine fun g σ H D hA hm => x_ifS ?_
    refine f_joinT (fun (s : Bool) => [some (.dat ((eT (eP2 eS eI)) a.1)), some (.dat (eI a.2)), some (.dat (eS t1.1)), some (.dat (eI t1.2))]) (fun s => s) hA hm (fun hm => ?_) (fun j2 H hA hm => ?_)
    ·
      refine x_andT ?_
      refine (evb_test (ev_op (ev_op (ev_var rfl) ev_int o2_i0) (ev_cb1 (ev_var rfl) (o1_lenT a.1 (eP2 eS eI) .t)) o2_c0)) _ _ _ _ _ hA fun H hA => ?_
      refine f_pick hm (fun hm => ?_) (fun hm => ?_)
      ·
        refine x_test ?_
        refine x_op ?_
        refine x_op ?_
        refine x_op ?_
        refine (ev_var rfl) _ _ _ _ _ hA fun v H hA => ?_
        refine (ev_op (ev_var rfl) ev_int o2_i0) _ _ _ _ _ hA fun v H hA => ?_
        refine f_o2m (o2_idxT (xs := a.1) (e := (eP2 eS eI))) hA hm fun t3 v H hA hm => ?_
        refine ev_int _ _ _ _ _ hA fun v H hA => ?_
        refine (o2_ixK (p := eS t3.1) rfl) _ _ _ _ _ _ _ hA fun v H hA => ?_
        refine (ev_var rfl) _ _ _ _ _ hA fun v H hA => ?_
        refine o2_eqS _ _ _ _ _ _ _ hA fun v H hA => ?_
        refine f_tst (P := fun c H1 => _) hA fun hA => ?_
        exact hm H hA
      ·
        exact hm H hA
    ·
      replace hA : At K g [some (.dat ((eT (eP2 eS eI)) a.1)), some (.dat (eI a.2)), some (.dat (eS t1.1)), some (.dat (eI t1.2))] _ _ _ := hA
      refine f_ifS hm (fun hm => ?_) (fun hm => ?_)
      ·
        refine bj_go hA hm ?_
        change BJ K _ [some (.dat ((eT (eP2 eS eI)) a.1)), some (.dat (eI a.2)), some (.dat (eS t1.1)), some (.dat (eI t1.2))] _ _ _ _ _
        refine bj_assoc ?_
        refine fun g σ H D hA hm => x_ret ?_
        refine ev_str _ _ _ _ _ hA fun v H hA => ?_
        exact hm v H _ (hA.weak1 (.d (.d .nil)) fun j z => nomatch z)
      ·
        refine bj_go hA hm ?_
        change BJ K _ [some (.dat ((eT (eP2 eS eI)) a.1)), some (.dat (eI a.2)), some (.dat (eS t1.1)), some (.dat (eI t1.2))] _ _ _ _ _
        refine bj_pass ?_
        refine fun g σ H D hA hm => x_ifS ?_
        refine f_joinT (fun (s : Bool) => [some (.dat ((eT (eP2 eS eI)) a.1)), some (.dat (eI a.2)), some (.dat (eS t1.1)), some (.dat (eI t1.2))]) (fun s => s) hA hm (fun hm => ?_) (fun j4 H hA hm => ?_)
        ·
          refine x_andT ?_
          refine (evb_test (ev_op (ev_op (ev_var rfl) ev_int o2_i0) (ev_cb1 (ev_var rfl) (o1_lenT a.1 (eP2 eS eI) .t)) o2_c0)) _ _ _ _ _ hA fun H hA => ?_
          refine f_pick hm (fun hm => ?_) (fun hm => ?_)
          ·
            refine x_andT ?_
            refine x_test ?_
            refine x_op ?_
            refine x_op ?_
            refine x_op ?_
            refine (ev_var rfl) _ _ _ _ _ hA fun v H hA => ?_
            refine (ev_op (ev_var rfl) ev_int o2_i0) _ _ _ _ _ hA fun v H hA => ?_
            refine f_o2m (o2_idxT (xs := a.1) (e := (eP2 eS eI))) hA hm fun t5 v H hA hm => ?_
            refine ev_int _ _ _ _ _ hA fun v H hA => ?_
            refine (o2_ixK (p := eS t5.1) rfl) _ _ _ _ _ _ _ hA fun v H hA => ?_
            refine (ev_var rfl) _ _ _ _ _ hA fun v H hA => ?_
            refine o2_eqS _ _ _ _ _ _ _ hA fun v H hA => ?_
            refine f_tst (P := fun c H1 => _) hA fun hA => ?_
            refine f_pick hm (fun hm => ?_) (fun hm => ?_)
            ·
              refine x_test ?_
              refine x_op ?_
              refine x_op ?_
              refine x_op ?_
              refine (ev_var rfl) _ _ _ _ _ hA fun v H hA => ?_
              refine (ev_op (ev_var rfl) ev_int o2_i0) _ _ _ _ _ hA fun v H hA => ?_
              refine f_o2m (o2_idxT (xs := a.1) (e := (eP2 eS eI))) hA hm fun t6 v H hA hm => ?_
              refine ev_int _ _ _ _ _ hA fun v H hA => ?_
              refine (o2_ixK (p := eI t6.2) rfl) _ _ _ _ _ _ _ hA fun v H hA => ?_
              refine (ev_var rfl) _ _ _ _ _ hA fun v H hA => ?_
              refine o2_c0 _ _ _ _ _ _ _ hA fun v H hA => ?_
              refine f_tst (P := fun c H1 => _) hA fun hA => ?_
              exact hm H hA
            ·
              exact hm H hA
          ·
            exact hm H hA
        ·
          replace hA : At K g [some (.dat ((eT (eP2 eS eI)) a.1)), some (.dat (eI a.2)), some (.dat (eS t1.1)), some (.dat (eI t1.2))] _ _ _ := hA
          refine f_ifS hm (fun hm => ?_) (fun hm => ?_)
          ·
            refine bj_go hA hm ?_
            change BJ K _ [some (.dat ((eT (eP2 eS eI)) a.1)), some (.dat (eI a.2)), some (.dat (eS t1.1)), some (.dat (eI t1.2))] _ _ _ _ _
            refine bj_assoc ?_
            refine fun g σ H D hA hm => x_ifS ?_
            refine x_test ?_
            refine x_op ?_
            refine x_op ?_
            refine x_op ?_
            refine (ev_var rfl) _ _ _ _ _ hA fun v H hA => ?_
            refine (ev_op (ev_var rfl) ev_int o2_i0) _ _ _ _ _ hA fun v H hA => ?_
            refine f_o2m (o2_idxT (xs := a.1) (e := (eP2 eS eI))) hA hm fun t7 v H hA hm => ?_
            refine ev_int _ _ _ _ _ hA fun v H hA => ?_
            refine (o2_ixK (p := eI t7.2) rfl) _ _ _ _ _ _ _ hA fun v H hA => ?_
            refine x_op ?_
            refine x_op ?_
            refine (ev_var rfl) _ _ _ _ _ hA fun v H hA => ?_
            refine (ev_op (ev_var rfl) ev_int o2_i0) _ _ _ _ _ hA fun v H hA => ?_
            refine f_o2m (o2_idxT (xs := a.1) (e := (eP2 eS eI))) hA hm fun t8 v H hA hm => ?_
            refine ev_int _ _ _ _ _ hA fun v H hA => ?_
            refine (o2_ixK (p := eI t8.2) rfl) _ _ _ _ _ _ _ hA fun v H hA => ?_
            refine o2_c0 _ _ _ _ _ _ _ hA fun v H hA => ?_
            refine f_tst (P := fun c H1 => _) hA fun hA => ?_
            refine f_ifS hm (fun hm => ?_) (fun hm => ?_)
            ·
              refine bj_go hA hm ?_
              change BJ K _ [some (.dat ((eT (eP2 eS eI)) a.1)), some (.dat (eI a.2)), some (.dat (eS t1.1)), some (.dat (eI t1.2))] _ _ _ _ _
              refine bj_assoc ?_
              refine fun g σ H D hA hm => x_ret ?_
              refine ev_str _ _ _ _ _ hA fun v H hA => ?_
              exact hm v H _ (hA.weak1 (.d (.d .nil)) fun j z => nomatch z)
            ·
              refine bj_go hA hm ?_
              change BJ K _ [some (.dat ((eT (eP2 eS eI)) a.1)), some (.dat (eI a.2)), some (.dat (eS t1.1)), some (.dat (eI t1.2))] _ _ _ _ _
              refine bj_pass ?_
              refine bj_assoc ?_
              refine fun g σ H D hA hm => x_ret ?_
              refine ev_str _ _ _ _ _ hA fun v H hA => ?_
              exact hm v H _ (hA.weak1 (.d (.d .nil)) fun j z => nomatch z)
          ·
            refine bj_go hA hm ?_
            change BJ K _ [some (.dat ((eT (eP2 eS eI)) a.1)), some (.dat (eI a.2)), some (.dat (eS t1.1)), some (.dat (eI t1.2))] _ _ _ _ _
            refine bj_pass ?_
            refine fun g σ H D hA hm => x_ret ?_
            refine ev_str _ _ _ _ _ hA fun v H hA => ?_
            exact hm v H _ (hA.weak1 (.d (.d .nil)) fun j z => nomatch z)
theorem ok_law_rules (T : Txt K mg Z) : FnOk P w K mg base (L2.CX P w) 2 Z.f_law_rules Z.d_law_rules ["row"] (Spec K Z.ec 1 pre_law_rules f_law_rules post_law_rules ret_law_rules) := by
  refine fn_ok T.d_law_rules.F sc_law_rules rfl m_law_rules fun cdv A outer s H E hr => ?_
  refine ⟨_, (pss_cons (ps_setLc (i := 1) (own := [("place", 2)]) (g := gName 2) rfl sc_law_rules.nd rfl rfl (sw_true rfl rfl rfl (by decide +kernel)) (pi_range1 (by rfl) T.z_range (pa_cons (pe_callB (r := rLen K) c_len (by rfl) T.z_len (by decide +kernel) (pa_cons (pv 0) pa_nil)) pa_nil)) (blkOk_by (N := ["row", "found", "place", "pair"]) (sc := defScope st_law_rules) (by decide +kernel)) (fun _ _ _ _ _ => (pg_name (i := 2) sc_law_rules.nd rfl (Or.inl rfl))) (fun _ _ _ _ _ => pts_nil) (fun _ _ _ _ _ => (pe_tup (pa_cons (pv 2) (pa_cons (pe_callS (ok_law_rule (K := K) T) (hr.mono (by decide)) (by rfl) T.d_law_rule.g T.d_law_rule.F.kp T.d_law_rule.b (fun σ => passAt takes0 σ) (pa_cons (pv 0) (pa_cons (pv 2) pa_nil))) pa_nil)))))
  (pss_cons (ps_ret (pe_lc (own := [("pair", 3)]) (g := gName 3) rfl sc_law_rules.nd (pi_list (pv 1)) (blkOk_by (N := ["row", "found", "place", "pair"]) (sc := defScope st_law_rules) (by decide +kernel)) (fun _ _ _ _ _ => (pg_name (i := 3) sc_law_rules.nd rfl (Or.inl rfl))) (fun _ _ _ _ _ => (pts_one (pt_cmpR op_ne (pe_ix (r := rIxT K) ix_tup (pv 3) pe_int (fun _ _ => rfl)) pe_str (nomark _)))) (fun _ _ _ _ _ => (pv 3))))
  pss_nil)), ?_⟩
  intro a as _
  change BJ K _ [some (.dat ((eT (eP2 eS eI)) a)), none, none, none] _ _ _ _ _
  refine fun g σ H D hA hm => x_asg ?_
  refine x_lcR1 ?_
  refine (ev_cb1 (ev_var rfl) (o1_lenT a (eP2 eS eI) .t)) _ _ _ _ _ hA fun v H hA => ?_
  refine f_rng1 (b := ((a).length : Int)) hA hm fun hm => f_lcW (e := eI) (enc := (eP2 eI eS)) (js := [2]) (ps := fun b2 => [eI b2]) (fun (s3 : Unit) => [some (.dat ((eT (eP2 eS eI)) a)), none, none, none]) (()) (fun b => tj_name) (by decide) (hnl fun s => rfl) (hnl fun s => rfl) (by decide) (lj_fwd fun s3 b2 g σ τ H Q Qn hA hm => ?_) hm (fun r4 v H hA hm => ?_)
  ·
    replace hA : At K g [some (.dat ((eT (eP2 eS eI)) a)), none, some (.dat (eI b2)), none] _ _ _ := hA
    refine x_yes ?_
    refine x_tup ?_
    refine x_cons ?_
    refine (ev_var rfl) _ _ _ _ _ hA fun v H hA => ?_
    refine x_cons ?_
    refine x_call2 ?_
    refine (ev_var rfl) _ _ _ _ _ hA fun v H hA => ?_
    refine (ev_var rfl) _ _ _ _ _ hA fun v H hA => ?_
    refine f_call [.d ((eT (eP2 eS eI)) a), .d (eI b2)] (a, b2) (fun r => []) hA rfl rfl True.intro (fun as h => match as, h with | [], _ => rfl) (fun _ => rfl) (fun r as h => match as, h with | [], _ => rfl) (fun r j z => nomatch z) .nil (hm.bindR.imp (fun r5 hm v H hA => ?_) fun _ q => q.elim)
    refine x_nil ?_
    refine f_tup (vs := [_, _]) [eI b2, eS r5] hA rfl (Nat.le_of_ble_eq_true rfl) fun v H hA => ?_
    exact hm v H hA
  ·
    replace hA : At K g [some (.dat ((eT (eP2 eS eI)) a)), none, none, none] _ _ _ := hA
    replace hA := hA.frz
    refine f_setgo hA (fun j z => nomatch z) rfl hm ?_
    change BJ K _ [some (.dat ((eT (eP2 eS eI)) a)), some (.dat ((eL (eP2 eI eS)) r4.2)), none, none] _ _ _ _ _
    refine fun g σ H D hA hm => x_ret ?_
    refine x_lcL ?_
    refine (ev_var rfl) _ _ _ _ _ hA fun v H hA => ?_
    refine wk_list (xs := r4.2) (e := (eP2 eI eS)) hA (f_lcW (e := (eP2 eI eS)) (enc := (eP2 eI eS)) (js := [3]) (ps := fun b6 => [(eP2 eI eS) b6]) (fun (s7 : Unit) => [some (.dat ((eT (eP2 eS eI)) a)), some (.dat ((eL (eP2 eI eS)) r4.2)), none, none]) (()) (fun b => tj_name) (by decide) (hnl fun s => rfl) (hnl fun s => rfl) (by decide) (lj_fwd fun s7 b6 g σ τ H Q Qn hA hm => ?_) hm (fun r8 v H hA hm => ?_))
    ·
      replace hA : At K g [some (.dat ((eT (eP2 eS eI)) a)), some (.dat ((eL (eP2 eI eS)) r4.2)), none, some (.dat ((eP2 eI eS) b6))] _ _ _ := hA
      refine (evb_test (ev_op (ev_op (ev_var rfl) ev_int (o2_ixK (p := eS b6.2))) ev_str o2_neS)) _ _ _ _ _ hA fun H hA => ?_
      refine f_pick hm (fun hm => ?_) (fun hm => ?_)
      ·
        refine (ev_var rfl) _ _ _ _ _ hA fun v H hA => ?_
        exact hm v H hA
      ·
        exact hm H hA
    ·
      replace hA : At K g [some (.dat ((eT (eP2 eS eI)) a)), some (.dat ((eL (eP2 eI eS)) r4.2)), none, none] _ _ _ := hA
      replace hA := hA.frz
      exact hm v H _ (hA.weak1 (.d .nil) fun j z => nomatch z)
theorem ok_law_behind (T : Txt K mg Z) : FnOk P w K mg base (L2.CX P w) 1 Z.f_law_behind Z.d_law_behind ["row", "delay", "place", "rule"] (Spec K Z.ec 4 pre_law_behind f_law_behind post_law_behind ret_law_behind) := by
  refine fn_ok T.d_law_behind.F sc_law_behind rfl m_law_behind fun cdv A outer s H E hr => ?_
  refine ⟨_, (pss_cons (ps_set (i := 4) sc_law_behind.nd rfl (Or.inl rfl) (pe_slice (r := rSlA K) sl_tupA (pv 0) po_none (po_some (pv 2))))
  (pss_cons (ps_asg (pe_ix (r := rIxT K) ix_tup (pv 0) (pv 2) (fun _ _ => rfl)) (pg_tup rfl (pgs_cons (pg_name (i := 7) sc_law_behind.nd rfl (Or.inl rfl)) (pgs_cons (pg_name (i := 8) sc_law_behind.nd rfl (Or.inl rfl)) pgs_nil))))
  (pss_cons (ps_if (pt_cmpR op_eq (pv 3) pe_str (nomark _)) (pss_cons (ps_ret (pe_tup (pa_cons (pe_op (r := rCatA K) op_catA (pv 4) (pe_slice (r := rSlA K) sl_tupA (pv 0) (po_some (pe_op op_add (pv 2) pe_int)) po_none)) (pa_cons (pv 1) pa_nil))))
  pss_nil) pss_nil)
  (pss_cons (ps_if (pt_cmpR op_eq (pv 3) pe_str (nomark _)) (pss_cons (ps_ret (pe_tup (pa_cons (pe_op (r := rCatA K) op_catA (pe_op (r := rCatA K) op_catA (pv 4) (pe_tup (pa_cons (pe_tup (pa_cons (pv 7) (pa_cons (pe_op op_add (pv 8) (pe_ix (r := rIxT K) ix_tup (pe_ix (r := rIxT K) ix_tup (pv 0) (pe_op op_add (pv 2) pe_int) (fun _ _ => rfl)) pe_int (fun _ _ => rfl))) pa_nil))) pa_nil))) (pe_slice (r := rSlA K) sl_tupA (pv 0) (po_some (pe_op op_add (pv 2) pe_int)) po_none)) (pa_cons (pv 1) pa_nil))))
  pss_nil) pss_nil)
  (pss_cons (ps_set (i := 5) sc_law_behind.nd rfl (Or.inl rfl) (pe_ix (r := rIxT K) ix_tup (pe_ix (r := rIxT K) ix_tup (pv 0) (pe_op op_add (pv 2) pe_int) (fun _ _ => rfl)) pe_int (fun _ _ => rfl)))
  (pss_cons (ps_set (i := 6) sc_law_behind.nd rfl (Or.inl rfl) (pe_ix (r := rIxT K) ix_tup (pe_ix (r := rIxT K) ix_tup (pv 0) (pe_op op_add (pv 2) pe_int) (fun _ _ => rfl)) pe_int (fun _ _ => rfl)))
  (pss_cons (ps_if (pt_cmpR op_eq (pv 3) pe_str (nomark _)) (pss_cons (ps_ret (pe_tup (pa_cons (pe_op (r := rCatA K) op_catA (pe_op (r := rCatA K) op_catA (pv 4) (pe_tup (pa_cons (pe_tup (pa_cons (pv 7) (pa_cons (pe_op op_sub (pe_op op_add (pv 8) (pv 6)) (pv 5)) pa_nil))) pa_nil))) (pe_slice (r := rSlA K) sl_tupA (pv 0) (po_some (pe_op op_add (pv 2) pe_int)) po_none)) (pa_cons (pe_op op_add (pv 1) (pv 5)) pa_nil))))
  pss_nil) pss_nil)
  (pss_cons (ps_ret (pe_tup (pa_cons (pe_op (r := rCatA K) op_catA (pe_op (r := rCatA K) op_catA (pv 4) (pe_tup (pa_cons (pe_tup (pa_cons (pv 7) (pa_cons (pv 8) pa_nil))) (pa_cons (pe_tup (pa_cons (pe_ix (r := rIxT K) ix_tup (pe_ix (r := rIxT K) ix_tup (pv 0) (pe_op op_add (pv 2) pe_int) (fun _ _ => rfl)) pe_int (fun _ _ => rfl)) (pa_cons (pe_op op_sub (pv 5) (pv 6)) pa_nil))) pa_nil)))) (pe_slice (r := rSlA K) sl_tupA (pv 0) (po_some (pe_op op_add (pv 2) pe_int)) po_none)) (pa_cons (pe_op op_add (pv 1) (pv 6)) pa_nil))))
  pss_nil)))))))), ?_⟩
  intro a as _
  change BJ K _ [some (.dat ((eT (eP2 eS eI)) a.1)), some (.dat (eI a.2.1)), some (.dat (eI a.2.2.1)), some (.dat (eS a.2.2.2)), none, none, none, none, none] _ _ _ _ _
  refine fun g σ H D hA hm => x_asg ?_
  refine (ev_slice (ev_var rfl) evo_none (evo_some (ev_var rfl)) (o1_cutTT (xs := a.1) (e := (eP2 eS eI)))) _ _ _ _ _ hA fun v H hA => ?_
  refine f_setlt (e := (cutL a.1 none (some a.2.2.1))) (fun t => .dat ((eT (eP2 eS eI)) t)) hA (fun t j z => nomatch z) rfl hm (fun ahead_1 => ?_)
  change BJ K _ [some (.dat ((eT (eP2 eS eI)) a.1)), some (.dat (eI a.2.1)), some (.dat (eI a.2.2.1)), some (.dat (eS a.2.2.2)), some (.dat ((eT (eP2 eS eI)) ahead_1)), none, none, none, none] _ _ _ _ _
  refine fun g σ H D hA hm => x_asg ?_
  refine x_op ?_
  refine (ev_var rfl) _ _ _ _ _ hA fun v H hA => ?_
  refine (ev_var rfl) _ _ _ _ _ hA fun v H hA => ?_
  refine f_o2m (o2_idxT (xs := a.1) (e := (eP2 eS eI))) hA hm fun t2 v H hA hm => ?_
  refine (tj_tup (tjs_cons tj_name (tjs_cons tj_name tjs_nil)) rfl).2 _ _ _ _ _ _ _ (hjl (sT := Unit) (Gl := fun _ => [some (.dat ((eT (eP2 eS eI)) a.1)), some (.dat (eI a.2.1)), some (.dat (eI a.2.2.1)), some (.dat (eS a.2.2.2)), some (.dat ((eT (eP2 eS eI)) ahead_1)), none, none, none, none]) (js := [7, 8]) (n := 9) (fun _ => rfl) (by decide) ()) (by intro y hy; cases hy) hA fun vs H _ hA => ?_
  replace hA : At K g [some (.dat ((eT (eP2 eS eI)) a.1)), some (.dat (eI a.2.1)), some (.dat (eI a.2.2.1)), some (.dat (eS a.2.2.2)), some (.dat ((eT (eP2 eS eI)) ahead_1)), none, none, some (.dat (eS t2.1)), some (.dat (eI t2.2))] _ _ _ := hA
  refine bj_go hA hm ?_
  refine bj_ifL (evb_test (ev_op (ev_var rfl) ev_str o2_eqS)) ?_ ?_
  ·
    refine bj_assoc ?_
    refine fun g σ H D hA hm => x_ret ?_
    refine x_tup ?_
    refine x_cons ?_
    refine x_op ?_
    refine (ev_var rfl) _ _ _ _ _ hA fun v H hA => ?_
    refine (ev_slice (ev_var rfl) (evo_some (ev_op (ev_var rfl) ev_int o2_i0)) evo_none (o1_cutTT (xs := a.1) (e := (eP2 eS eI)))) _ _ _ _ _ hA fun v H hA => ?_
    refine f_o2m (o2_catT (xs := ahead_1) (ys := (cutL a.1 (some (a.2.2.1 + (1 : Int))) none)) (e := (eP2 eS eI))) hA hm fun t3 v H hA hm => ?_
    refine x_cons ?_
    refine (ev_var rfl) _ _ _ _ _ hA fun v H hA => ?_
    refine x_nil ?_
    refine f_tup (vs := [_, _]) [(eT (eP2 eS eI)) t3, eI a.2.1] hA rfl (Nat.le_of_ble_eq_true rfl) fun v H hA => ?_
    exact hm v H _ (hA.weak1 (.d (.d (.d (.d .nil)))) fun j z => nomatch z)
  ·
    refine bj_pass ?_
    refine bj_ifL (evb_test (ev_op (ev_var rfl) ev_str o2_eqS)) ?_ ?_
    ·
      refine bj_assoc ?_
      refine fun g σ H D hA hm => x_ret ?_
      refine x_tup ?_
      refine x_cons ?_
      refine x_op ?_
      refine x_op ?_
      refine (ev_var rfl) _ _ _ _ _ hA fun v H hA => ?_
      refine x_tup ?_
      refine x_cons ?_
      refine x_tup ?_
      refine x_cons ?_
      refine (ev_var rfl) _ _ _ _ _ hA fun v H hA => ?_
      refine x_cons ?_
      refine x_op ?_
      refine (ev_var rfl) _ _ _ _ _ hA fun v H hA => ?_
      refine x_op ?_
      refine x_op ?_
      refine (ev_var rfl) _ _ _ _ _ hA fun v H hA => ?_
      refine (ev_op (ev_var rfl) ev_int o2_i0) _ _ _ _ _ hA fun v H hA => ?_
      refine f_o2m (o2_idxT (xs := a.1) (e := (eP2 eS eI))) hA hm fun t4 v H hA hm => ?_
      refine ev_int _ _ _ _ _ hA fun v H hA => ?_
      refine (o2_ixK (p := eI t4.2) rfl) _ _ _ _ _ _ _ hA fun v H hA => ?_
      refine o2_i0 _ _ _ _ _ _ _ hA fun v H hA => ?_
      refine x_nil ?_
      refine f_tup (vs := [_, _]) [eS t2.1, eI (t2.2 + t4.2)] hA rfl (Nat.le_of_ble_eq_true rfl) fun v H hA => ?_
      refine x_nil ?_
      refine f_tup (vs := [_]) [(eP2 eS eI) (t2.1, (t2.2 + t4.2))] hA rfl (Nat.le_of_ble_eq_true rfl) fun v H hA => ?_
      refine f_o2m (o2_catT (xs := ahead_1) (ys := [(t2.1, (t2.2 + t4.2))]) (e := (eP2 eS eI))) hA hm fun t5 v H hA hm => ?_
      refine (ev_slice (ev_var rfl) (evo_some (ev_op (ev_var rfl) ev_int o2_i0)) evo_none (o1_cutTT (xs := a.1) (e := (eP2 eS eI)))) _ _ _ _ _ hA fun v H hA => ?_
      refine f_o2m (o2_catT (xs := t5) (ys := (cutL a.1 (some (a.2.2.1 + (2 : Int))) none)) (e := (eP2 eS eI))) hA hm fun t6 v H hA hm => ?_
      refine x_cons ?_
      refine (ev_var rfl) _ _ _ _ _ hA fun v H hA => ?_
      refine x_nil ?_
      refine f_tup (vs := [_, _]) [(eT (eP2 eS eI)) t6, eI a.2.1] hA rfl (Nat.le_of_ble_eq_true rfl) fun v H hA => ?_
      exact hm v H _ (hA.weak1 (.d (.d (.d (.d .nil)))) fun j z => nomatch z)
    ·
      refine bj_pass ?_
      refine fun g σ H D hA hm => x_asg ?_
      refine x_op ?_
      refine x_op ?_
      refine (ev_var rfl) _ _ _ _ _ hA fun v H hA => ?_
      refine (ev_op (ev_var rfl) ev_int o2_i0) _ _ _ _ _ hA fun v H hA => ?_
      refine f_o2m (o2_idxT (xs := a.1) (e := (eP2 eS eI))) hA hm fun t7 v H hA hm => ?_
      refine ev_int _ _ _ _ _ hA fun v H hA => ?_
      refine (o2_ixK (p := eI t7.2) rfl) _ _ _ _ _ _ _ hA fun v H hA => ?_
      refine f_setgo hA (fun j z => nomatch z) rfl hm ?_
      change BJ K _ [some (.dat ((eT (eP2 eS eI)) a.1)), some (.dat (eI a.2.1)), some (.dat (eI a.2.2.1)), some (.dat (eS a.2.2.2)), some (.dat ((eT (eP2 eS eI)) ahead_1)), some (.dat (eI t7.2)), none, some (.dat (eS t2.1)), some (.dat (eI t2.2))] _ _ _ _ _
      refine fun g σ H D hA hm => x_asg ?_
      refine x_op ?_
      refine x_op ?_
      refine (ev_var rfl) _ _ _ _ _ hA fun v H hA => ?_
      refine (ev_op (ev_var rfl) ev_int o2_i0) _ _ _ _ _ hA fun v H hA => ?_
      refine f_o2m (o2_idxT (xs := a.1) (e := (eP2 eS eI))) hA hm fun t8 v H hA hm => ?_
      refine ev_int _ _ _ _ _ hA fun v H hA => ?_
      refine (o2_ixK (p := eI t8.2) rfl) _ _ _ _ _ _ _ hA fun v H hA => ?_
      refine f_setgo hA (fun j z => nomatch z) rfl hm ?_
      change BJ K _ [some (.dat ((eT (eP2 eS eI)) a.1)), some (.dat (eI a.2.1)), some (.dat (eI a.2.2.1)), some (.dat (eS a.2.2.2)), some (.dat ((eT (eP2 eS eI)) ahead_1)), some (.dat (eI t7.2)), some (.dat (eI t8.2)), some (.dat (eS t2.1)), some (.dat (eI t2.2))] _ _ _ _ _
      refine bj_ifL (evb_test (ev_op (ev_var rfl) ev_str o2_eqS)) ?_ ?_
      ·
        refine bj_assoc ?_
        refine fun g σ H D hA hm => x_ret ?_
        refine x_tup ?_
        refine x_cons ?_
        refine x_op ?_
        refine x_op ?_
        refine (ev_var rfl) _ _ _ _ _ hA fun v H hA => ?_
        refine (ev_tup [(eP2 eS eI) (t2.1, ((t2.2 + t8.2) - t7.2))] (ea_cons (ev_tup [eS t2.1, eI ((t2.2 + t8.2) - t7.2)] (ea_cons (ev_var rfl) (ea_cons (ev_op (ev_op (ev_var rfl) (ev_var rfl) o2_i0) (ev_var rfl) o2_i0) ea_nil))) ea_nil)) _ _ _ _ _ hA fun v H hA => ?_
        refine f_o2m (o2_catT (xs := ahead_1) (ys := [(t2.1, ((t2.2 + t8.2) - t7.2))]) (e := (eP2 eS eI))) hA hm fun t9 v H hA hm => ?_
        refine (ev_slice (ev_var rfl) (evo_some (ev_op (ev_var rfl) ev_int o2_i0)) evo_none (o1_cutTT (xs := a.1) (e := (eP2 eS eI)))) _ _ _ _ _ hA fun v H hA => ?_
        refine f_o2m (o2_catT (xs := t9) (ys := (cutL a.1 (some (a.2.2.1 + (3 : Int))) none)) (e := (eP2 eS eI))) hA hm fun t10 v H hA hm => ?_
        refine x_cons ?_
        refine (ev_op (ev_var rfl) (ev_var rfl) o2_i0) _ _ _ _ _ hA fun v H hA => ?_
        refine x_nil ?_
        refine f_tup (vs := [_, _]) [(eT (eP2 eS eI)) t10, eI (a.2.1 + t7.2)] hA rfl (Nat.le_of_ble_eq_true rfl) fun v H hA => ?_
        exact hm v H _ (hA.weak1 (.d (.d (.d (.d .nil)))) fun j z => nomatch z)
      ·
        refine bj_pass ?_
        refine fun g σ H D hA hm => x_ret ?_
        refine x_tup ?_
        refine x_cons ?_
        refine x_op ?_
        refine x_op ?_
        refine (ev_var rfl) _ _ _ _ _ hA fun v H hA => ?_
        refine x_tup ?_
        refine x_cons ?_
        refine (ev_tup [eS t2.1, eI t2.2] (ea_cons (ev_var rfl) (ea_cons (ev_var rfl) ea_nil))) _ _ _ _ _ hA fun v H hA => ?_
        refine x_cons ?_
        refine x_tup ?_
        refine x_cons ?_
        refine x_op ?_
        refine x_op ?_
        refine (ev_var rfl) _ _ _ _ _ hA fun v H hA => ?_
        refine (ev_op (ev_var rfl) ev_int o2_i0) _ _ _ _ _ hA fun v H hA => ?_
        refine f_o2m (o2_idxT (xs := a.1) (e := (eP2 eS eI))) hA hm fun t11 v H hA hm => ?_
        refine ev_int _ _ _ _ _ hA fun v H hA => ?_
        refine (o2_ixK (p := eS t11.1) rfl) _ _ _ _ _ _ _ hA fun v H hA => ?_
        refine x_cons ?_
        refine (ev_op (ev_var rfl) (ev_var rfl) o2_i0) _ _ _ _ _ hA fun v H hA => ?_
        refine x_nil ?_
        refine f_tup (vs := [_, _]) [eS t11.1, eI (t7.2 - t8.2)] hA rfl (Nat.le_of_ble_eq_true rfl) fun v H hA => ?_
        refine x_nil ?_
        refine f_tup (vs := [_, _]) [(eP2 eS eI) (t2.1, t2.2), (eP2 eS eI) (t11.1, (t7.2 - t8.2))] hA rfl (Nat.le_of_ble_eq_true rfl) fun v H hA => ?_
        refine f_o2m (o2_catT (xs := ahead_1) (ys := [((t2.1, t2.2), (t11.1, (t7.2 - t8.2))).1, ((t2.1, t2.2), (t11.1, (t7.2 - t8.2))).2]) (e := (eP2 eS eI))) hA hm fun t12 v H hA hm => ?_
        refine (ev_slice (ev_var rfl) (evo_some (ev_op (ev_var rfl) ev_int o2_i0)) evo_none (o1_cutTT (xs := a.1) (e := (eP2 eS eI)))) _ _ _ _ _ hA fun v H hA => ?_
        refine f_o2m (o2_catT (xs := t12) (ys := (cutL a.1 (some (a.2.2.1 + (3 : Int))) none)) (e := (eP2 eS eI))) hA hm fun t13 v H hA hm => ?_
        refine x_cons ?_
        refine (ev_op (ev_var rfl) (ev_var rfl) o2_i0) _ _ _ _ _ hA fun v H hA => ?_
        refine x_nil ?_
        refine f_tup (vs := [_, _]) [(eT (eP2 eS eI)) t13, eI (a.2.1 + t8.2)] hA rfl (Nat.le_of_ble_eq_true rfl) fun v H hA => ?_
        exact hm v H _ (hA.weak1 (.d (.d (.d (.d .nil)))) fun j z => nomatch z)
theorem ok_law_sums (T : Txt K mg Z) : FnOk P w K mg base (L2.CX P w) 1 Z.f_law_sums Z.d_law_sums ["row", "delay"] (Spec K Z.ec 2 pre_law_sums f_law_sums post_law_sums ret_law_sums) := by
  refine fn_ok T.d_law_sums.F sc_law_sums rfl m_law_sums fun cdv A outer s H E hr => ?_
  refine ⟨_, (pss_cons (ps_set (i := 2) sc_law_sums.nd rfl (Or.inl rfl) (pe_callB (r := rSum K) (cr_sum rfl) (by rfl) T.z_sum (by decide +kernel) (pa_cons (pe_lc (own := [("clock", 4)]) (g := gName 4) rfl sc_law_sums.nd (pi_tup (pv 0)) (blkOk_by (N := ["row", "delay", "on", "off", "clock"]) (sc := defScope st_law_sums) (by decide +kernel)) (fun _ _ _ _ _ => (pg_name (i := 4) sc_law_sums.nd rfl (Or.inl rfl))) (fun _ _ _ _ _ => (pts_one (pt_cmpR op_eq (pe_ix (r := rIxT K) ix_tup (pv 4) pe_int (fun _ _ => rfl)) pe_str (nomark _)))) (fun _ _ _ _ _ => (pe_ix (r := rIxT K) ix_tup (pv 4) pe_int (fun _ _ => rfl)))) pa_nil)))
  (pss_cons (ps_set (i := 3) sc_law_sums.nd rfl (Or.inl rfl) (pe_callB (r := rSum K) (cr_sum rfl) (by rfl) T.z_sum (by decide +kernel) (pa_cons (pe_lc (own := [("clock", 4)]) (g := gName 4) rfl sc_law_sums.nd (pi_tup (pv 0)) (blkOk_by (N := ["row", "delay", "on", "off", "clock"]) (sc := defScope st_law_sums) (by decide +kernel)) (fun _ _ _ _ _ => (pg_name (i := 4) sc_law_sums.nd rfl (Or.inl rfl))) (fun _ _ _ _ _ => (pts_one (pt_cmpR op_eq (pe_ix (r := rIxT K) ix_tup (pv 4) pe_int (fun _ _ => rfl)) pe_str (nomark _)))) (fun _ _ _ _ _ => (pe_ix (r := rIxT K) ix_tup (pv 4) pe_int (fun _ _ => rfl)))) pa_nil)))
  (pss_cons (ps_ret (pe_lst (pa_cons (pe_op op_add (pv 2) (pv 1)) (pa_cons (pe_op op_add (pv 3) (pv 1)) pa_nil))))
  pss_nil))), ?_⟩
  intro a as _
  change BJ K _ [some (.dat ((eT (eP2 eS eI)) a.1)), some (.dat (eI a.2)), none, none, none] _ _ _ _ _
  refine fun g σ H D hA hm => x_asg ?_
  refine x_cb1 ?_
  refine x_lcT ?_
  refine (ev_var rfl) _ _ _ _ _ hA fun v H hA => ?_
  refine wk_tup (xs := a.1) (e := (eP2 eS eI)) hA (f_lcW (e := (eP2 eS eI)) (enc := eI) (js := [4]) (ps := fun b1 => [(eP2 eS eI) b1]) (fun (s2 : Unit) => [some (.dat ((eT (eP2 eS eI)) a.1)), some (.dat (eI a.2)), none, none, none]) (()) (fun b => tj_name) (by decide) (hnl fun s => rfl) (hnl fun s => rfl) (by decide) (lj_fwd fun s2 b1 g σ τ H Q Qn hA hm => ?_) hm (fun r3 v H hA hm => ?_))
  ·
    replace hA : At K g [some (.dat ((eT (eP2 eS eI)) a.1)), some (.dat (eI a.2)), none, none, some (.dat ((eP2 eS eI) b1))] _ _ _ := hA
    refine (evb_test (ev_op (ev_op (ev_var rfl) ev_int (o2_ixK (p := eS b1.1))) ev_str o2_eqS)) _ _ _ _ _ hA fun H hA => ?_
    refine f_pick hm (fun hm => ?_) (fun hm => ?_)
    ·
      refine (ev_op (ev_var rfl) ev_int (o2_ixK (p := eI b1.2))) _ _ _ _ _ hA fun v H hA => ?_
      exact hm v H hA
    ·
      exact hm H hA
  ·
    replace hA : At K g [some (.dat ((eT (eP2 eS eI)) a.1)), some (.dat (eI a.2)), none, none, none] _ _ _ := hA
    refine o1_sum (xs := r3.2) .own _ _ _ _ _ _ hA fun v H hA => ?_
    refine f_setlt (e := (r3.2).sum) (fun t => .dat (eI t)) hA (fun t j z => nomatch z) rfl hm (fun on_4 => ?_)
    change BJ K _ [some (.dat ((eT (eP2 eS eI)) a.1)), some (.dat (eI a.2)), some (.dat (eI on_4)), none, none] _ _ _ _ _
    refine fun g σ H D hA hm => x_asg ?_
    refine x_cb1 ?_
    refine x_lcT ?_
    refine (ev_var rfl) _ _ _ _ _ hA fun v H hA => ?_
    refine wk_tup (xs := a.1) (e := (eP2 eS eI)) hA (f_lcW (e := (eP2 eS eI)) (enc := eI) (js := [4]) (ps := fun b5 => [(eP2 eS eI) b5]) (fun (s6 : Unit) => [some (.dat ((eT (eP2 eS eI)) a.1)), some (.dat (eI a.2)), some (.dat (eI on_4)), none, none]) (()) (fun b => tj_name) (by decide) (hnl fun s => rfl) (hnl fun s => rfl) (by decide) (lj_fwd fun s6 b5 g σ τ H Q Qn hA hm => ?_) hm (fun r7 v H hA hm => ?_))
    ·
      replace hA : At K g [some (.dat ((eT (eP2 eS eI)) a.1)), some (.dat (eI a.2)), some (.dat (eI on_4)), none, some (.dat ((eP2 eS eI) b5))] _ _ _ := hA
      refine (evb_test (ev_op (ev_op (ev_var rfl) ev_int (o2_ixK (p := eS b5.1))) ev_str o2_eqS)) _ _ _ _ _ hA fun H hA => ?_
      refine f_pick hm (fun hm => ?_) (fun hm => ?_)
      ·
        refine (ev_op (ev_var rfl) ev_int (o2_ixK (p := eI b5.2))) _ _ _ _ _ hA fun v H hA => ?_
        exact hm v H hA
      ·
        exact hm H hA
    ·
      replace hA : At K g [some (.dat ((eT (eP2 eS eI)) a.1)), some (.dat (eI a.2)), some (.dat (eI on_4)), none, none] _ _ _ := hA
      refine o1_sum (xs := r7.2) .own _ _ _ _ _ _ hA fun v H hA => ?_
      refine f_setlt (e := (r7.2).sum) (fun t => .dat (eI t)) hA (fun t j z => nomatch z) rfl hm (fun off_8 => ?_)
      change BJ K _ [some (.dat ((eT (eP2 eS eI)) a.1)), some (.dat (eI a.2)), some (.dat (eI on_4)), some (.dat (eI off_8)), none] _ _ _ _ _
      refine fun g σ H D hA hm => x_ret ?_
      refine (ev_lst [eI (on_4 + a.2), eI (off_8 + a.2)] (ea_cons (ev_op (ev_var rfl) (ev_var rfl) o2_i0) (ea_cons (ev_op (ev_var rfl) (ev_var rfl) o2_i0) ea_nil))) _ _ _ _ _ hA fun v H hA => ?_
      replace hA := hA.frz
      exact hm v H _ (hA.weak1 (.d (.d .nil)) fun j z => nomatch z)
theorem ok_law_pair_told (T : Txt K mg Z) : FnOk P w K mg base (L2.CX P w) 2 Z.f_law_pair_told Z.d_law_pair_told ["told", "due"] (Spec K Z.ec 2 pre_law_pair_told f_law_pair_told post_law_pair_told ret_law_pair_told) := by
  refine fn_ok T.d_law_pair_told.F sc_law_pair_told rfl m_law_pair_told fun cdv A outer s H E hr => ?_
  refine ⟨_, (pss_cons (ps_if (pw_or (pt_not (pt_val (pe_callB (r := rIsi K) call_isi (by rfl) T.z_isinstance (by decide +kernel) (pa_cons (pv 0) (pa_cons (pe_bltn (v := .ty "tuple") (u := .type "tuple") (by rfl) T.z_tuple (by decide +kernel) rfl) pa_nil))))) (pw_or (pt_cmpR (r := rNeD K) (op_neD hr.units) (pv 0) (pv 1) (nomark _)) (pw_or (pt_not (pt_val (pe_callB (r := rIsi K) call_isi (by rfl) T.z_isinstance (by decide +kernel) (pa_cons (pe_ix (r := rIxT K) ix_tup (pv 0) pe_int (fun _ _ => rfl)) (pa_cons (pe_bltn (v := .ty "tuple") (u := .type "tuple") (by rfl) T.z_tuple (by decide +kernel) rfl) pa_nil))))) (pw_or1 (pt_not (pt_val (pe_callS (ok_law_int (K := K) T) (hr.mono (by decide)) (by rfl) T.d_law_int.g T.d_law_int.F.kp T.d_law_int.b (fun σ => passAt (takes_of rfl rfl rfl rfl) σ) (pa_cons (pe_ix (r := rIxT K) ix_tup (pv 0) pe_int (fun _ _ => rfl)) pa_nil)))))))).pt (pss_cons (ps_ret pe_bl)
  pss_nil) pss_nil)
  (pss_cons (ps_for (passes_of rfl) rfl (pi_tup (pe_ix (r := rIxT K) ix_tup (pv 0) pe_int (fun _ _ => rfl))) (pg_name (i := 2) sc_law_pair_told.nd rfl (Or.inl rfl)) (pss_cons (ps_if (pw_or (pt_not (pt_val (pe_callB (r := rIsi K) call_isi (by rfl) T.z_isinstance (by decide +kernel) (pa_cons (pv 2) (pa_cons (pe_bltn (v := .ty "tuple") (u := .type "tuple") (by rfl) T.z_tuple (by decide +kernel) rfl) pa_nil))))) (pw_or1 (pt_not (pt_val (pe_callS (ok_law_int (K := K) T) (hr.mono (by decide)) (by rfl) T.d_law_int.g T.d_law_int.F.kp T.d_law_int.b (fun σ => passAt (takes_of rfl rfl rfl rfl) σ) (pa_cons (pe_ix (r := rIxT K) ix_tup (pv 2) pe_int (fun _ _ => rfl)) pa_nil)))))).pt (pss_cons (ps_ret pe_bl)
  pss_nil) pss_nil)
  pss_nil))
  (pss_cons (ps_ret pe_bl)
  pss_nil))), ?_⟩
  intro a as _
  change BJ K _ [some (.dat ((eP2 (eT (eP2 eS eI)) eI) a.1)), some (.dat ((eP2 (eT (eP2 eS eI)) eI) a.2)), none] _ _ _ _ _
  refine fun g σ H D hA hm => x_ifS ?_
  refine f_joinT (fun (s : Bool) => [some (.dat ((eP2 (eT (eP2 eS eI)) eI) a.1)), some (.dat ((eP2 (eT (eP2 eS eI)) eI) a.2)), none]) (fun s => s) hA hm (fun hm => ?_) (fun j1 H hA hm => ?_)
  ·
    refine x_orT ?_
    refine (evb_not (evb_B (ev_isi (d := ((dP2 (dT (dP2 PyData.str PyData.int)) PyData.int) a.1)) .tuple (ev_var rfl) (.dat (bx_p2 (bx_t (bx_p2 bx_s bx_i)) bx_i))))) _ _ _ _ _ hA fun H hA => ?_
    refine f_pick hm (fun hm => ?_) (fun hm => ?_)
    ·
      exact hm H hA
    ·
      refine x_orT ?_
      refine x_test ?_
      refine x_op ?_
      refine (ev_var rfl) _ _ _ _ _ hA fun v H hA => ?_
      refine (ev_var rfl) _ _ _ _ _ hA fun v H hA => ?_
      refine f_o2m (o2_neDM (a := ((dP2 (dT (dP2 PyData.str PyData.int)) PyData.int) a.1)) (b := ((dP2 (dT (dP2 PyData.str PyData.int)) PyData.int) a.2)) (.dat (bx_p2 (bx_t (bx_p2 bx_s bx_i)) bx_i)) (.dat (bx_p2 (bx_t (bx_p2 bx_s bx_i)) bx_i))) hA hm fun t2 v H hA hm => ?_
      refine f_tst (P := fun c H1 => _) hA fun hA => ?_
      refine f_pick hm (fun hm => ?_) (fun hm => ?_)
      ·
        exact hm H hA
      ·
        refine x_orT ?_
        refine (evb_not (evb_B (ev_isi (d := ((dT (dP2 PyData.str PyData.int)) a.1.1)) .tuple (ev_op (ev_var rfl) ev_int (o2_ixK (p := (eT (eP2 eS eI)) a.1.1))) (.dat (bx_t (bx_p2 bx_s bx_i)))))) _ _ _ _ _ hA fun H hA => ?_
        refine f_pick hm (fun hm => ?_) (fun hm => ?_)
        ·
          exact hm H hA
        ·
          refine x_not ?_
          refine x_B ?_
          refine x_call1 ?_
          refine (ev_op (ev_var rfl) ev_int (o2_ixK (p := eI a.1.2))) _ _ _ _ _ hA fun v H hA => ?_
          replace hA := hA.box (Bx.hd (x := a.1.2) bx_i)
          refine f_call [.d (eD (PyData.int a.1.2))] (PyData.int a.1.2) (fun r => []) hA rfl rfl True.intro (fun as h => match as, h with | [], _ => rfl) (fun _ => rfl) (fun r as h => match as, h with | [], _ => rfl) (fun r j z => nomatch z) .nil (hm.bindR.imp (fun r3 hm v H hA => ?_) fun _ q => q)
          refine f_tst (P := fun c H1 => _) hA fun hA => ?_
          exact hm H hA
  ·
    replace hA : At K g [some (.dat ((eP2 (eT (eP2 eS eI)) eI) a.1)), some (.dat ((eP2 (eT (eP2 eS eI)) eI) a.2)), none] _ _ _ := hA
    refine f_ifS hm (fun hm => ?_) (fun hm => ?_)
    ·
      refine bj_go hA hm ?_
      change BJ K _ [some (.dat ((eP2 (eT (eP2 eS eI)) eI) a.1)), some (.dat ((eP2 (eT (eP2 eS eI)) eI) a.2)), none] _ _ _ _ _
      refine bj_assoc ?_
      refine fun g σ H D hA hm => x_ret ?_
      refine ev_bl _ _ _ _ _ hA fun v H hA => ?_
      exact hm v H _ (hA.weak1 (.d (.d .nil)) fun j z => nomatch z)
    ·
      refine bj_go hA hm ?_
      change BJ K _ [some (.dat ((eP2 (eT (eP2 eS eI)) eI) a.1)), some (.dat ((eP2 (eT (eP2 eS eI)) eI) a.2)), none] _ _ _ _ _
      refine bj_pass ?_
      refine fun g σ H D hA hm => ?_
      refine x_forT ?_
      refine (ev_op (ev_var rfl) ev_int (o2_ixK (p := (eT (eP2 eS eI)) a.1.1))) _ _ _ _ _ hA fun v H hA => ?_
      refine wk_tup (xs := a.1.1) (e := (eP2 eS eI)) hA (f_for (e := (eP2 eS eI)) (fun (s4 : Unit) => [none, none, none]) (s0 := ()) (.d (.d (.d .nil))) hm (hb_of (e := (eP2 eS eI)) (js := [2]) (ps := fun b5 => [(eP2 eS eI) b5]) (fun b => tj_name) (hjl (n := 3) (fun s => rfl) (by decide)) (fun s4 b5 => ?_)) (fun s4 => ?_))
      ·
        change BJ K _ [none, none, some (.dat ((eP2 eS eI) b5))] _ _ _ _ _
        refine fun g σ H D hA hm => x_ifS ?_
        refine f_joinT (fun (s : Bool) => [none, none, some (.dat ((eP2 eS eI) b5))]) (fun s => s) hA hm (fun hm => ?_) (fun j6 H hA hm => ?_)
        ·
          refine x_orT ?_
          refine (evb_not (evb_B (ev_isi (d := ((dP2 PyData.str PyData.int) b5)) .tuple (ev_var rfl) (.dat (bx_p2 bx_s bx_i))))) _ _ _ _ _ hA fun H hA => ?_
          refine f_pick hm (fun hm => ?_) (fun hm => ?_)
          ·
            exact hm H hA
          ·
            refine x_not ?_
            refine x_B ?_
            refine x_call1 ?_
            refine (ev_op (ev_var rfl) ev_int (o2_ixK (p := eI b5.2))) _ _ _ _ _ hA fun v H hA => ?_
            replace hA := hA.box (Bx.hd (x := b5.2) bx_i)
            refine f_call [.d (eD (PyData.int b5.2))] (PyData.int b5.2) (fun r => []) hA rfl rfl True.intro (fun as h => match as, h with | [], _ => rfl) (fun _ => rfl) (fun r as h => match as, h with | [], _ => rfl) (fun r j z => nomatch z) .nil (hm.bindR.imp (fun r7 hm v H hA => ?_) fun _ q => q)
            refine f_tst (P := fun c H1 => _) hA fun hA => ?_
            exact hm H hA
        ·
          replace hA : At K g [none, none, some (.dat ((eP2 eS eI) b5))] _ _ _ := hA
          refine f_ifS hm (fun hm => ?_) (fun hm => ?_)
          ·
            refine bj_go hA hm ?_
            change BJ K _ [none, none, some (.dat ((eP2 eS eI) b5))] _ _ _ _ _
            refine bj_assoc ?_
            refine fun g σ H D hA hm => x_ret ?_
            refine ev_bl _ _ _ _ _ hA fun v H hA => ?_
            exact hm v H _ (hA.weak1 (.d (.d .nil)) fun j z => nomatch z)
          ·
            refine bj_go hA hm ?_
            change BJ K _ [none, none, some (.dat ((eP2 eS eI) b5))] _ _ _ _ _
            refine bj_pass ?_
            exact bj_nx (a := ()) (.d (.d (.d .nil)))
      ·
        change BJ K _ [none, none, none] _ _ _ _ _
        refine fun g σ H D hA hm => x_ret ?_
        refine ev_bl _ _ _ _ _ hA fun v H hA => ?_
        exact hm v H _ (hA.weak1 (.d (.d .nil)) fun j z => nomatch z)
theorem ok_law_first (T : Txt K mg Z) : FnOk P w K mg base (L2.CX P w) 2 Z.f_law_first Z.d_law_first ["row", "delay", "rules"] (Spec K Z.ec 3 pre_law_first f_law_first post_law_first ret_law_first) := by
  refine fn_ok T.d_law_first.F sc_law_first rfl m_law_first fun cdv A outer s H E hr => ?_
  refine ⟨_, (pss_cons (ps_setLc (i := 3) (own := [("pair", 5)]) (g := gName 5) rfl sc_law_first.nd rfl rfl (sw_true rfl rfl rfl (by decide +kernel)) (pi_list (pv 2)) (blkOk_by (N := ["row", "delay", "rules", "simple", "chosen", "pair"]) (sc := defScope st_law_first) (by decide +kernel)) (fun _ _ _ _ _ => (pg_name (i := 5) sc_law_first.nd rfl (Or.inl rfl))) (fun _ _ _ _ _ => (pts_one (pt_cmpR (r := rIn K false) op_in_seq (pe_ix (r := rIxT K) ix_tup (pv 5) pe_int (fun _ _ => rfl)) (pe_tup (pa_cons pe_str (pa_cons pe_str pa_nil))) rfl))) (fun _ _ _ _ _ => (pv 5)))
  (pss_cons (ps_if (pt_cmpR op_eq (pe_callB (r := rLen K) c_len (by rfl) T.z_len (by decide +kernel) (pa_cons (pv 2) pa_nil)) pe_int (nomark _)) (pss_cons (ps_ret pe_non)
  pss_nil) pss_nil)
  (pss_cons (ps_set (i := 4) sc_law_first.nd rfl (Or.inl rfl) (pe_ix (r := rIxL K) ix_list (pe_op (r := rCatS K) op_catS (pv 3) (pv 2)) pe_int (fun _ _ => rfl)))
  (pss_cons (ps_ret (pe_op (r := rCatA K) op_catA (pe_callS (ok_law_behind (K := K) T) (hr.mono (by decide)) (by rfl) T.d_law_behind.g T.d_law_behind.F.kp T.d_law_behind.b (fun σ => passAt (takes_of rfl rfl rfl rfl) σ) (pa_cons (pv 0) (pa_cons (pv 1) (pa_cons (pe_ix (r := rIxT K) ix_tup (pv 4) pe_int (fun _ _ => rfl)) (pa_cons (pe_ix (r := rIxT K) ix_tup (pv 4) pe_int (fun _ _ => rfl)) pa_nil))))) (pe_tup (pa_cons (pe_ix (r := rIxT K) ix_tup (pv 4) pe_int (fun _ _ => rfl)) pa_nil))))
  pss_nil)))), ?_⟩
  intro a as _
  change BJ K _ [some (.dat ((eT (eP2 eS eI)) a.1)), some (.dat (eI a.2.1)), some (.dat ((eL (eP2 eI eS)) a.2.2)), none, none, none] _ _ _ _ _
  refine fun g σ H D hA hm => x_asg ?_
  refine x_lcL ?_
  refine (ev_var rfl) _ _ _ _ _ hA fun v H hA => ?_
  refine wk_list (xs := a.2.2) (e := (eP2 eI eS)) hA (f_lcW (e := (eP2 eI eS)) (enc := (eP2 eI eS)) (js := [5]) (ps := fun b1 => [(eP2 eI eS) b1]) (fun (s2 : Unit) => [some (.dat ((eT (eP2 eS eI)) a.1)), some (.dat (eI a.2.1)), some (.dat ((eL (eP2 eI eS)) a.2.2)), none, none, none]) (()) (fun b => tj_name) (by decide) (hnl fun s => rfl) (hnl fun s => rfl) (by decide) (lj_fwd fun s2 b1 g σ τ H Q Qn hA hm => ?_) hm (fun r3 v H hA hm => ?_))
  ·
    replace hA : At K g [some (.dat ((eT (eP2 eS eI)) a.1)), some (.dat (eI a.2.1)), some (.dat ((eL (eP2 eI eS)) a.2.2)), none, none, some (.dat ((eP2 eI eS) b1))] _ _ _ := hA
    refine (evb_test (ev_op (ev_op (ev_var rfl) ev_int (o2_ixK (p := eS b1.2))) (ev_tup [eS ("nothing" : Str), eS ("added" : Str)] (ea_cons ev_str (ea_cons ev_str ea_nil))) (o2_inS (xs := [(("nothing" : Str), ("added" : Str)).1, (("nothing" : Str), ("added" : Str)).2]) .t))) _ _ _ _ _ hA fun H hA => ?_
    refine f_pick hm (fun hm => ?_) (fun hm => ?_)
    ·
      refine (ev_var rfl) _ _ _ _ _ hA fun v H hA => ?_
      exact hm v H hA
    ·
      exact hm H hA
  ·
    replace hA : At K g [some (.dat ((eT (eP2 eS eI)) a.1)), some (.dat (eI a.2.1)), some (.dat ((eL (eP2 eI eS)) a.2.2)), none, none, none] _ _ _ := hA
    replace hA := hA.frz
    refine f_setgo hA (fun j z => nomatch z) rfl hm ?_
    change BJ K _ [some (.dat ((eT (eP2 eS eI)) a.1)), some (.dat (eI a.2.1)), some (.dat ((eL (eP2 eI eS)) a.2.2)), some (.dat ((eL (eP2 eI eS)) r3.2)), none, none] _ _ _ _ _
    refine bj_ifL (evb_test (ev_op (ev_cb1 (ev_var rfl) (o1_lenT a.2.2 (eP2 eI eS) (.l .dat))) ev_int o2_eqI)) ?_ ?_
    ·
      refine bj_assoc ?_
      refine fun g σ H D hA hm => x_ret ?_
      refine ev_non _ _ _ _ _ hA fun v H hA => ?_
      exact hm v H _ (hA.weak1 (.d (.d (.d .nil))) fun j z => nomatch z)
    ·
      refine bj_pass ?_
      refine fun g σ H D hA hm => x_asg ?_
      refine x_op ?_
      refine x_op ?_
      refine (ev_var rfl) _ _ _ _ _ hA fun v H hA => ?_
      refine (ev_var rfl) _ _ _ _ _ hA fun v H hA => ?_
      refine f_o2m (o2_catS (xs := r3.2) (ys := a.2.2) (e := (eP2 eI eS)) .dat .dat) hA hm fun t4 v H hA hm => ?_
      refine ev_int _ _ _ _ _ hA fun v H hA => ?_
      refine f_o2m (o2_idxL (xs := t4) (e := (eP2 eI eS)) .own) hA hm fun t5 v H hA hm => ?_
      refine f_setgo hA (fun j z => nomatch z) rfl hm ?_
      change BJ K _ [some (.dat ((eT (eP2 eS eI)) a.1)), some (.dat (eI a.2.1)), some (.dat ((eL (eP2 eI eS)) a.2.2)), some (.dat ((eL (eP2 eI eS)) r3.2)), some (.dat ((eP2 eI eS) t5)), none] _ _ _ _ _
      refine fun g σ H D hA hm => x_ret ?_
      refine x_op ?_
      refine x_call4 ?_
      refine (ev_var rfl) _ _ _ _ _ hA fun v H hA => ?_
      refine (ev_var rfl) _ _ _ _ _ hA fun v H hA => ?_
      refine (ev_op (ev_var rfl) ev_int (o2_ixK (p := eI t5.1))) _ _ _ _ _ hA fun v H hA => ?_
      refine (ev_op (ev_var rfl) ev_int (o2_ixK (p := eS t5.2))) _ _ _ _ _ hA fun v H hA => ?_
      refine f_call [.d ((eT (eP2 eS eI)) a.1), .d (eI a.2.1), .d (eI t5.1), .d (eS t5.2)] (a.1, a.2.1, t5.1, t5.2) (fun r => []) hA rfl rfl True.intro (fun as h => match as, h with | [], _ => rfl) (fun _ => rfl) (fun r as h => match as, h with | [], _ => rfl) (fun r j z => nomatch z) .nil (hm.bindR.imp (fun r6 hm v H hA => ?_) fun _ q => q)
      refine (ev_tup [eS t5.2] (ea_cons (ev_op (ev_var rfl) ev_int (o2_ixK (p := eS t5.2))) ea_nil)) _ _ _ _ _ hA fun v H hA => ?_
      refine (o2_catP (ps := [(eT (eP2 eS eI)) r6.1, eI r6.2]) (qs := [eS t5.2]) (Nat.le_of_ble_eq_true rfl)) _ _ _ _ _ _ _ hA fun v H hA => ?_
      exact hm v H _ (hA.weak1 (.d (.d (.d .nil))) fun j z => nomatch z)
theorem ok_law_listed (T : Txt K mg Z) : FnOk P w K mg base (L2.CX P w) 1 Z.f_law_listed Z.d_law_listed ["row"] (Spec K Z.ec 1 pre_law_listed f_law_listed post_law_listed ret_law_listed) := by
  refine fn_ok T.d_law_listed.F sc_law_listed rfl m_law_listed fun cdv A outer s H E hr => ?_
  refine ⟨_, (pss_cons (ps_ret (pe_lc (own := [("clock", 1)]) (g := gName 1) rfl sc_law_listed.nd (pi_tup (pv 0)) (blkOk_by (N := ["row", "clock"]) (sc := defScope st_law_listed) (by decide +kernel)) (fun _ _ _ _ _ => (pg_name (i := 1) sc_law_listed.nd rfl (Or.inl rfl))) (fun _ _ _ _ _ => pts_nil) (fun _ _ _ _ _ => (pe_callTy (r := rList K) c_list (by rfl) T.z_list (by decide +kernel) (pa_cons (pv 1) pa_nil)))))
  pss_nil), ?_⟩
  intro a as _
  change BJ K _ [some (.dat ((eT (eP2 eS eI)) a)), none] _ _ _ _ _
  refine fun g σ H D hA hm => x_ret ?_
  refine x_lcT ?_
  refine (ev_var rfl) _ _ _ _ _ hA fun v H hA => ?_
  refine wk_tup (xs := a) (e := (eP2 eS eI)) hA (f_lcW (e := (eP2 eS eI)) (enc := (eL eD)) (js := [1]) (ps := fun b1 => [(eP2 eS eI) b1]) (fun (s2 : Unit) => [some (.dat ((eT (eP2 eS eI)) a)), none]) (()) (fun b => tj_name) (by decide) (hnl fun s => rfl) (hnl fun s => rfl) (by decide) (lj_fwd fun s2 b1 g σ τ H Q Qn hA hm => ?_) hm (fun r3 v H hA hm => ?_))
  ·
    replace hA : At K g [some (.dat ((eT (eP2 eS eI)) a)), some (.dat ((eP2 eS eI) b1))] _ _ _ := hA
    refine x_yes ?_
    refine x_cb1 ?_
    refine (ev_var rfl) _ _ _ _ _ hA fun v H hA => ?_
    refine (o1_list (ps := [eS b1.1, eI b1.2]) .t) _ _ _ _ _ _ hA fun v H hA => ?_
    replace hA := hA.frz
    replace hA := hA.box (boxL2 bx_s bx_i)
    exact hm v H hA
  ·
    replace hA : At K g [some (.dat ((eT (eP2 eS eI)) a)), none] _ _ _ := hA
    replace hA := hA.frz
    exact hm v H _ (hA.weak1 (.d .nil) fun j z => nomatch z)
theorem ok_law_turn (T : Txt K mg Z) : FnOk P w K mg base (L2.CX P w) 5 Z.f_law_turn Z.d_law_turn ["row", "delay", "rules"] (Spec K Z.ec 3 pre_law_turn f_law_turn post_law_turn ret_law_turn) := by
  refine fn_ok T.d_law_turn.F sc_law_turn rfl m_law_turn fun cdv A outer s H E hr => ?_
  refine ⟨_, (pss_cons (ps_set (i := 3) sc_law_turn.nd rfl (Or.inl rfl) (pe_callS (ok_rules_at (K := K) T) (hr.mono (by decide)) (by rfl) T.d_rules_at.g T.d_rules_at.F.kp T.d_rules_at.b (fun σ => passAt (takes_of rfl rfl rfl rfl) σ) (pa_cons (pe_callS (ok_law_listed (K := K) T) (hr.mono (by decide)) (by rfl) T.d_law_listed.g T.d_law_listed.F.kp T.d_law_listed.b (fun σ => passAt (takes_of rfl rfl rfl rfl) σ) (pa_cons (pv 0) pa_nil)) pa_nil)))
  (pss_cons (ps_if (pw_or (pt_not (pt_val (pe_callB (r := rIsi K) call_isi (by rfl) T.z_isinstance (by decide +kernel) (pa_cons (pv 3) (pa_cons (pe_bltn (v := .ty "tuple") (u := .type "tuple") (by rfl) T.z_tuple (by decide +kernel) rfl) pa_nil))))) (pw_or1 (pt_cmpR (r := rNeD K) (op_neD hr.units) (pe_callTy (r := rList K) c_list (by rfl) T.z_list (by decide +kernel) (pa_cons (pv 3) pa_nil)) (pv 2) (nomark _)))).pt (pss_cons (ps_ret pe_bl)
  pss_nil) pss_nil)
  (pss_cons (ps_set (i := 4) sc_law_turn.nd rfl (Or.inl rfl) (pe_callS (ok_one_rule (K := K) T) (hr.mono (by decide)) (by rfl) T.d_one_rule.g T.d_one_rule.F.kp T.d_one_rule.b (fun σ => passAt (takes_of rfl rfl rfl rfl) σ) (pa_cons (pv 0) (pa_cons (pv 1) pa_nil))))
  (pss_cons (ps_if (pt_cmpR (r := rNeD K) (op_neD hr.units) (pv 4) (pe_callS (ok_law_first (K := K) T) (hr.mono (by decide)) (by rfl) T.d_law_first.g T.d_law_first.F.kp T.d_law_first.b (fun σ => passAt (takes_of rfl rfl rfl rfl) σ) (pa_cons (pv 0) (pa_cons (pv 1) (pa_cons (pv 2) pa_nil)))) (nomark _)) (pss_cons (ps_ret pe_bl)
  pss_nil) pss_nil)
  (pss_cons (ps_for (passes_of rfl) rfl (pi_range2 (by rfl) T.z_range (pa_cons (pe_un un_neg pe_int) (pa_cons (pe_op op_add (pe_callB (r := rLen K) c_len (by rfl) T.z_len (by decide +kernel) (pa_cons (pv 0) pa_nil)) pe_int) pa_nil))) (pg_name (i := 5) sc_law_turn.nd rfl (Or.inr rfl)) (pss_cons (ps_setLc (i := 6) (own := [("pair", 10)]) (g := gName 10) rfl sc_law_turn.nd rfl rfl (sw_true rfl rfl rfl (by decide +kernel)) (pi_list (pv 2)) (blkOk_by (N := ["row", "delay", "rules", "told", "given", "place", "rule", "word", "refused", "led", "pair"]) (sc := defScope st_law_turn) (by decide +kernel)) (fun _ _ _ _ _ => (pg_name (i := 10) sc_law_turn.nd rfl (Or.inl rfl))) (fun _ _ _ _ _ => (pts_one (pt_cmpR op_eq (pe_ix (r := rIxT K) ix_tup (pv 10) pe_int (fun _ _ => rfl)) (pv 5) (nomark _)))) (fun _ _ _ _ _ => (pe_ix (r := rIxT K) ix_tup (pv 10) pe_int (fun _ _ => rfl))))
  (pss_cons (ps_set (i := 7) sc_law_turn.nd rfl (Or.inl rfl) pe_str)
  (pss_cons (ps_try rfl rfl sc_law_turn.nd (takes_of rfl rfl rfl rfl) (fun W pn xe tk' pso => (pss_cons (ps_set (i := 9) sc_law_turn.nd rfl (Or.inl rfl) (pe_callS (ok_use (K := K) T) (hr.mono (by decide)) (by rfl) T.d_use.g T.d_use.F.kp T.d_use.b (fun σ => passAt tk' σ) (pa_cons (pe_callS (ok_law_listed (K := K) T) (hr.mono (by decide)) (by rfl) T.d_law_listed.g T.d_law_listed.F.kp T.d_law_listed.b (fun σ => passAt tk' σ) (pa_cons (pv 0) pa_nil)) (pa_cons (pv 1) (pa_cons (pv 5) pa_nil)))))
  (pss_cons (ps_if (pw_or (pt_cmpR op_eq (pe_callB (r := rLen K) c_len (by rfl) T.z_len (by decide +kernel) (pa_cons (pv 6) pa_nil)) pe_int (nomark _)) (pw_or1 (pt_not (pt_val (pe_callS (ok_law_pair_told (K := K) T) (hr.mono (by decide)) (by rfl) T.d_law_pair_told.g T.d_law_pair_told.F.kp T.d_law_pair_told.b (fun σ => passAt tk' σ) (pa_cons (pv 9) (pa_cons (pe_callS (ok_law_behind (K := K) T) (hr.mono (by decide)) (by rfl) T.d_law_behind.g T.d_law_behind.F.kp T.d_law_behind.b (fun σ => passAt tk' σ) (pa_cons (pv 0) (pa_cons (pv 1) (pa_cons (pv 5) (pa_cons (pe_ix (r := rIxL K) ix_list (pv 6) pe_int (fun _ _ => rfl)) pa_nil))))) pa_nil))))))).pt (pss_cons (ps_ret pe_bl)
  pss_nil) pss_nil)
  pss_nil))) (HsOk.named (i := 8) ⟨by rfl, by decide, .inl T.x_BadNumber.g⟩ rfl rfl (fun a oe cls d pn hz hf => (pss_cons (ps_set (i := 7) sc_law_turn.nd rfl (Or.inl rfl) (pe_xf T.x_BadNumber.xf (T.x_BadNumber.no _ (by decide)) hz hf (pv 8)))
  pss_nil)) HsOk.nil))
  (pss_cons (ps_if (pt_cmpR op_ne (pv 7) (pe_ix (r := rIxL K) ix_list (pe_lst (pa_cons pe_str (pa_cons pe_str pa_nil))) (pe_callB (r := rLen K) c_len (by rfl) T.z_len (by decide +kernel) (pa_cons (pv 6) pa_nil)) (fun _ _ => rfl)) (nomark _)) (pss_cons (ps_ret pe_bl)
  pss_nil) pss_nil)
  pss_nil)))))
  (pss_cons (ps_ret pe_bl)
  pss_nil)))))), ?_⟩
  intro a as _
  change BJ K _ [some (.dat ((eT (eP2 eS eI)) a.1)), some (.dat (eI a.2.1)), some (.dat ((eL (eP2 eI eS)) a.2.2)), none, none, none, none, none, none, none, none] _ _ _ _ _
  refine fun g σ H D hA hm => x_asg ?_
  refine x_call1 ?_
  refine x_call1 ?_
  refine (ev_var rfl) _ _ _ _ _ hA fun v H hA => ?_
  refine f_call [.d ((eT (eP2 eS eI)) a.1)] a.1 (fun r => []) hA rfl rfl True.intro (fun as h => match as, h with | [], _ => rfl) (fun _ => rfl) (fun r as h => match as, h with | [], _ => rfl) (fun r j z => nomatch z) .nil (hm.bindR.imp (fun r1 hm v H hA => ?_) fun _ q => q)
  replace hA := hA.box (Bx.hd (x := r1) (bx_l (bx_l bx_d)))
  refine f_call [.d (eD ((dL (dL id)) r1))] ((dL (dL id)) r1) (fun r => []) hA rfl rfl True.intro (fun as h => match as, h with | [], _ => rfl) (fun _ => rfl) (fun r as h => match as, h with | [], _ => rfl) (fun r j z => nomatch z) .nil (hm.bindR.imp (fun r2 hm v H hA => ?_) fun _ q => q)
  refine f_setgo hA (fun j z => nomatch z) rfl hm ?_
  change BJ K _ [some (.dat ((eT (eP2 eS eI)) a.1)), some (.dat (eI a.2.1)), some (.dat ((eL (eP2 eI eS)) a.2.2)), some (.dat ((eT (eP2 eI eS)) r2)), none, none, none, none, none, none, none] _ _ _ _ _
  refine fun g σ H D hA hm => x_ifS ?_
  refine f_joinT (fun (s : Bool) => [some (.dat ((eT (eP2 eS eI)) a.1)), some (.dat (eI a.2.1)), some (.dat ((eL (eP2 eI eS)) a.2.2)), some (.dat ((eT (eP2 eI eS)) r2)), none, none, none, none, none, none, none]) (fun s => s) hA hm (fun hm => ?_) (fun j3 H hA hm => ?_)
  ·
    refine x_orT ?_
    refine (evb_not (evb_B (ev_isi (d := ((dT (dP2 PyData.int PyData.str)) r2)) .tuple (ev_var rfl) (.dat (bx_t (bx_p2 bx_i bx_s)))))) _ _ _ _ _ hA fun H hA => ?_
    refine f_pick hm (fun hm => ?_) (fun hm => ?_)
    ·
      exact hm H hA
    ·
      refine x_test ?_
      refine x_op ?_
      refine (ev_cb1 (ev_var rfl) (o1_list .t)) _ _ _ _ _ hA fun v H hA => ?_
      refine (ev_var rfl) _ _ _ _ _ hA fun v H hA => ?_
      refine f_o2m (o2_neDM (a := ((dL (dP2 PyData.int PyData.str)) r2)) (b := ((dL (dP2 PyData.int PyData.str)) a.2.2)) (.lst (bx_p2 bx_i bx_s) .own) (.dat (bx_l (bx_p2 bx_i bx_s)))) hA hm fun t4 v H hA hm => ?_
      refine f_tst (P := fun c H1 => _) hA fun hA => ?_
      exact hm H hA
  ·
    replace hA : At K g [some (.dat ((eT (eP2 eS eI)) a.1)), some (.dat (eI a.2.1)), some (.dat ((eL (eP2 eI eS)) a.2.2)), some (.dat ((eT (eP2 eI eS)) r2)), none, none, none, none, none, none, none] _ _ _ := hA
    refine f_ifS hm (fun hm => ?_) (fun hm => ?_)
    ·
      refine bj_go hA hm ?_
      change BJ K _ [some (.dat ((eT (eP2 eS eI)) a.1)), some (.dat (eI a.2.1)), some (.dat ((eL (eP2 eI eS)) a.2.2)), some (.dat ((eT (eP2 eI eS)) r2)), none, none, none, none, none, none, none] _ _ _ _ _
      refine bj_assoc ?_
      refine fun g σ H D hA hm => x_ret ?_
      refine ev_bl _ _ _ _ _ hA fun v H hA => ?_
      exact hm v H _ (hA.weak1 (.d (.d (.d .nil))) fun j z => nomatch z)
    ·
      refine bj_go hA hm ?_
      change BJ K _ [some (.dat ((eT (eP2 eS eI)) a.1)), some (.dat (eI a.2.1)), some (.dat ((eL (eP2 eI eS)) a.2.2)), some (.dat ((eT (eP2 eI eS)) r2)), none, none, none, none, none, none, none] _ _ _ _ _
      refine bj_pass ?_
      refine fun g σ H D hA hm => x_asg ?_
      refine x_call2 ?_
      refine (ev_var rfl) _ _ _ _ _ hA fun v H hA => ?_
      replace hA := hA.box (Bx.hd (x := a.1) (bx_t (bx_p2 bx_s bx_i)))
      refine (ev_var rfl) _ _ _ _ _ hA fun v H hA => ?_
      replace hA := hA.box (Bx.hd (x := a.2.1) bx_i)
      refine f_call [.d (eD ((dT (dP2 PyData.str PyData.int)) a.1)), .d (eD (PyData.int a.2.1))] (((dT (dP2 PyData.str PyData.int)) a.1), (PyData.int a.2.1)) (fun r => []) hA rfl rfl True.intro (fun as h => match as, h with | [], _ => rfl) (fun _ => rfl) (fun r as h => match as, h with | [], _ => rfl) (fun r j z => nomatch z) .nil (hm.bindR.imp (fun r5 hm v H hA => ?_) fun _ q => q)
      refine f_setgo hA (fun j z => nomatch z) rfl hm ?_
      change BJ K _ [some (.dat ((eT (eP2 eS eI)) a.1)), some (.dat (eI a.2.1)), some (.dat ((eL (eP2 eI eS)) a.2.2)), some (.dat ((eT (eP2 eI eS)) r2)), some (.dat ((eO (eP3 (eT (eP2 eS eI)) eI eS)) r5)), none, none, none, none, none, none] _ _ _ _ _
      refine fun g σ H D hA hm => x_ifS ?_
      refine x_test ?_
      refine x_op ?_
      refine (ev_var rfl) _ _ _ _ _ hA fun v H hA => ?_
      refine x_call3 ?_
      refine (ev_var rfl) _ _ _ _ _ hA fun v H hA => ?_
      refine (ev_var rfl) _ _ _ _ _ hA fun v H hA => ?_
      refine (ev_var rfl) _ _ _ _ _ hA fun v H hA => ?_
      refine f_call [.d ((eT (eP2 eS eI)) a.1), .d (eI a.2.1), .d ((eL (eP2 eI eS)) a.2.2)] (a.1, a.2.1, a.2.2) (fun r => []) hA rfl rfl True.intro (fun as h => match as, h with | [], _ => rfl) (fun _ => rfl) (fun r as h => match as, h with | [], _ => rfl) (fun r j z => nomatch z) .nil (hm.bindR.imp (fun r6 hm v H hA => ?_) fun _ q => q)
      refine f_o2m (o2_neDM (a := ((dO (dP3 (dT (dP2 PyData.str PyData.int)) PyData.int PyData.str)) r5)) (b := ((dO (dP3 (dT (dP2 PyData.str PyData.int)) PyData.int PyData.str)) r6)) (.dat (bx_o (bx_p3 (bx_t (bx_p2 bx_s bx_i)) bx_i bx_s))) (.dat (bx_o (bx_p3 (bx_t (bx_p2 bx_s bx_i)) bx_i bx_s)))) hA hm fun t7 v H hA hm => ?_
      refine f_tst (P := fun c H1 => _) hA fun hA => ?_
      refine f_ifS hm (fun hm => ?_) (fun hm => ?_)
      ·
        refine bj_go hA hm ?_
        change BJ K _ [some (.dat ((eT (eP2 eS eI)) a.1)), some (.dat (eI a.2.1)), some (.dat ((eL (eP2 eI eS)) a.2.2)), some (.dat ((eT (eP2 eI eS)) r2)), some (.dat ((eO (eP3 (eT (eP2 eS eI)) eI eS)) r5)), none, none, none, none, none, none] _ _ _ _ _
        refine bj_assoc ?_
        refine fun g σ H D hA hm => x_ret ?_
        refine ev_bl _ _ _ _ _ hA fun v H hA => ?_
        exact hm v H _ (hA.weak1 (.d (.d (.d .nil))) fun j z => nomatch z)
      ·
        refine bj_go hA hm ?_
        change BJ K _ [some (.dat ((eT (eP2 eS eI)) a.1)), some (.dat (eI a.2.1)), some (.dat ((eL (eP2 eI eS)) a.2.2)), some (.dat ((eT (eP2 eI eS)) r2)), some (.dat ((eO (eP3 (eT (eP2 eS eI)) eI eS)) r5)), none, none, none, none, none, none] _ _ _ _ _
        refine bj_pass ?_
        refine fun g σ H D hA hm => ?_
        refine x_forR2 ?_
        refine (ev_un ev_int o1_neg) _ _ _ _ _ hA fun v H hA => ?_
        refine (ev_op (ev_cb1 (ev_var rfl) (o1_lenT a.1 (eP2 eS eI) .t)) ev_int o2_i0) _ _ _ _ _ hA fun v H hA => ?_
        refine f_rng2 (a := (-(1 : Int))) (b := (((a.1).length : Int) + (1 : Int))) hA hm fun hm => f_for (e := eI) (fun (s9 : Unit) => [some (.dat ((eT (eP2 eS eI)) a.1)), some (.dat (eI a.2.1)), some (.dat ((eL (eP2 eI eS)) a.2.2)), none, none, none, none, none, none, none, none]) (s0 := ()) (.s (.s (.s (.d (.d (.d (.d (.d (.d (.d (.d .nil))))))))))) hm (hb_of (e := eI) (js := [5]) (ps := fun b10 => [eI b10]) (fun b => tj_name) (hjl (n := 11) (fun s => rfl) (by decide)) (fun s9 b10 => ?_)) (fun s9 => ?_)
        ·
          change BJ K _ [some (.dat ((eT (eP2 eS eI)) a.1)), some (.dat (eI a.2.1)), some (.dat ((eL (eP2 eI eS)) a.2.2)), none, none, some (.dat (eI b10)), none, none, none, none, none] _ _ _ _ _
          refine fun g σ H D hA hm => x_asg ?_
          refine x_lcL ?_
          refine (ev_var rfl) _ _ _ _ _ hA fun v H hA => ?_
          refine wk_list (xs := a.2.2) (e := (eP2 eI eS)) hA (f_lcW (e := (eP2 eI eS)) (enc := eS) (js := [10]) (ps := fun b11 => [(eP2 eI eS) b11]) (fun (s12 : Unit) => [some (.dat ((eT (eP2 eS eI)) a.1)), some (.dat (eI a.2.1)), some (.dat ((eL (eP2 eI eS)) a.2.2)), none, none, some (.dat (eI b10)), none, none, none, none, none]) (()) (fun b => tj_name) (by decide) (hnl fun s => rfl) (hnl fun s => rfl) (by decide) (lj_fwd fun s12 b11 g σ τ H Q Qn hA hm => ?_) hm (fun r13 v H hA hm => ?_))
          ·
            replace hA : At K g [some (.dat ((eT (eP2 eS eI)) a.1)), some (.dat (eI a.2.1)), some (.dat ((eL (eP2 eI eS)) a.2.2)), none, none, some (.dat (eI b10)), none, none, none, none, some (.dat ((eP2 eI eS) b11))] _ _ _ := hA
            refine (evb_test (ev_op (ev_op (ev_var rfl) ev_int (o2_ixK (p := eI b11.1))) (ev_var rfl) o2_eqI)) _ _ _ _ _ hA fun H hA => ?_
            refine f_pick hm (fun hm => ?_) (fun hm => ?_)
            ·
              refine (ev_op (ev_var rfl) ev_int (o2_ixK (p := eS b11.2))) _ _ _ _ _ hA fun v H hA => ?_
              exact hm v H hA
            ·
              exact hm H hA
          ·
            replace hA : At K g [some (.dat ((eT (eP2 eS eI)) a.1)), some (.dat (eI a.2.1)), some (.dat ((eL (eP2 eI eS)) a.2.2)), none, none, some (.dat (eI b10)), none, none, none, none, none] _ _ _ := hA
            replace hA := hA.frz
            refine f_setgo hA (fun j z => nomatch z) rfl hm ?_
            change BJ K _ [some (.dat ((eT (eP2 eS eI)) a.1)), some (.dat (eI a.2.1)), some (.dat ((eL (eP2 eI eS)) a.2.2)), none, none, some (.dat (eI b10)), some (.dat ((eL eS) r13.2)), none, none, none, none] _ _ _ _ _
            refine fun g σ H D hA hm => x_asg ?_
            refine ev_str _ _ _ _ _ hA fun v H hA => ?_
            refine f_setlt (e := ("" : Str)) (fun t => .dat (eS t)) hA (fun t j z => nomatch z) rfl hm (fun word_14 => ?_)
            change BJ K _ [some (.dat ((eT (eP2 eS eI)) a.1)), some (.dat (eI a.2.1)), some (.dat ((eL (eP2 eI eS)) a.2.2)), none, none, some (.dat (eI b10)), some (.dat ((eL eS) r13.2)), some (.dat (eS word_14)), none, none, none] _ _ _ _ _
            refine bj_seq (n1 := fun (s16 : Str) => [some (.dat ((eT (eP2 eS eI)) a.1)), some (.dat (eI a.2.1)), some (.dat ((eL (eP2 eI eS)) a.2.2)), none, none, none, some (.dat ((eL eS) r13.2)), some (.dat (eS s16)), none, none, none]) ?_ (fun s16 => ?_)
            ·
              refine bj_try (Gt := [some (.dat ((eT (eP2 eS eI)) a.1)), some (.dat (eI a.2.1)), some (.dat ((eL (eP2 eI eS)) a.2.2)), none, none, none, some (.dat ((eL eS) r13.2)), some (.dat (eS word_14)), none, none, none]) ?_ ?_ (fun W => ?_) ?_
              · rfl
              · exact .nil
              ·
                change BJ K _ [some (.dat ((eT (eP2 eS eI)) a.1)), some (.dat (eI a.2.1)), some (.dat ((eL (eP2 eI eS)) a.2.2)), none, none, some (.dat (eI b10)), some (.dat ((eL eS) r13.2)), some (.dat (eS word_14)), none, none, none] _ _ _ _ _
                refine fun g σ H D hA hm => x_asg ?_
                refine x_call3 ?_
                refine x_call1 ?_
                refine (ev_var rfl) _ _ _ _ _ hA fun v H hA => ?_
                refine f_call [.d ((eT (eP2 eS eI)) a.1)] a.1 (fun r => []) hA rfl rfl True.intro (fun as h => match as, h with | [], _ => rfl) (fun _ => rfl) (fun r as h => match as, h with | [], _ => rfl) (fun r j z => nomatch z) (.s (.s (.s (.d (.d (.d (.s (.s (.d (.d (.d .nil))))))))))) (hm.bindR.imp (fun r17 hm v H hA => ?_) fun _ q => q)
                replace hA := hA.box (Bx.hd (x := r17) (bx_l (bx_l bx_d)))
                refine (ev_var rfl) _ _ _ _ _ hA fun v H hA => ?_
                replace hA := hA.box (Bx.hd (x := a.2.1) bx_i)
                refine (ev_var rfl) _ _ _ _ _ hA fun v H hA => ?_
                replace hA := hA.box (Bx.hd (x := b10) bx_i)
                refine f_call [.d (eD ((dL (dL id)) r17)), .d (eD (PyData.int a.2.1)), .d (eD (PyData.int b10))] (((dL (dL id)) r17), (PyData.int a.2.1), (PyData.int b10)) (fun r => []) hA rfl rfl True.intro (fun as h => match as, h with | [], _ => rfl) (fun _ => rfl) (fun r as h => match as, h with | [], _ => rfl) (fun r j z => nomatch z) (.s (.s (.s (.d (.d (.d (.s (.s (.d (.d (.d .nil))))))))))) (hm.bindR.imp (fun r18 hm v H hA => ?_) fun _ q => q)
                refine f_setgo hA (fun j z => nomatch z) rfl hm ?_
                change BJ K _ [some (.dat ((eT (eP2 eS eI)) a.1)), some (.dat (eI a.2.1)), some (.dat ((eL (eP2 eI eS)) a.2.2)), none, none, some (.dat (eI b10)), some (.dat ((eL eS) r13.2)), some (.dat (eS word_14)), none, some (.dat ((eP2 (eT (eP2 eS eI)) eI) r18)), none] _ _ _ _ _
                refine fun g σ H D hA hm => x_ifS ?_
                refine f_joinT (fun (s : Bool) => [some (.dat ((eT (eP2 eS eI)) a.1)), some (.dat (eI a.2.1)), some (.dat ((eL (eP2 eI eS)) a.2.2)), none, none, some (.dat (eI b10)), some (.dat ((eL eS) r13.2)), some (.dat (eS word_14)), none, some (.dat ((eP2 (eT (eP2 eS eI)) eI) r18)), none]) (fun s => s) hA hm (fun hm => ?_) (fun j19 H hA hm => ?_)
                ·
                  refine x_orT ?_
                  refine (evb_test (ev_op (ev_cb1 (ev_var rfl) (o1_lenT r13.2 eS (.l .dat))) ev_int o2_eqI)) _ _ _ _ _ hA fun H hA => ?_
                  refine f_pick hm (fun hm => ?_) (fun hm => ?_)
                  ·
                    exact hm H hA
                  ·
                    refine x_not ?_
                    refine x_B ?_
                    refine x_call2 ?_
                    refine (ev_var rfl) _ _ _ _ _ hA fun v H hA => ?_
                    refine x_call4 ?_
                    refine (ev_var rfl) _ _ _ _ _ hA fun v H hA => ?_
                    refine (ev_var rfl) _ _ _ _ _ hA fun v H hA => ?_
                    refine (ev_var rfl) _ _ _ _ _ hA fun v H hA => ?_
                    refine x_op ?_
                    refine (ev_var rfl) _ _ _ _ _ hA fun v H hA => ?_
                    refine ev_int _ _ _ _ _ hA fun v H hA => ?_
                    refine f_o2m (o2_idxL (xs := r13.2) (e := eS) .dat) hA hm fun t20 v H hA hm => ?_
                    refine f_call [.d ((eT (eP2 eS eI)) a.1), .d (eI a.2.1), .d (eI b10), .d (eS t20)] (a.1, a.2.1, b10, t20) (fun r => []) hA rfl rfl True.intro (fun as h => match as, h with | [], _ => rfl) (fun _ => rfl) (fun r as h => match as, h with | [], _ => rfl) (fun r j z => nomatch z) (.s (.s (.s (.d (.d (.d (.s (.s (.d (.d (.d .nil))))))))))) (hm.bindR.imp (fun r21 hm v H hA => ?_) fun _ q => q)
                    refine f_call [.d ((eP2 (eT (eP2 eS eI)) eI) r18), .d ((eP2 (eT (eP2 eS eI)) eI) r21)] (r18, r21) (fun r => []) hA rfl rfl True.intro (fun as h => match as, h with | [], _ => rfl) (fun _ => rfl) (fun r as h => match as, h with | [], _ => rfl) (fun r j z => nomatch z) (.s (.s (.s (.d (.d (.d (.s (.s (.d (.d (.d .nil))))))))))) (hm.bindR.imp (fun r22 hm v H hA => ?_) fun _ q => q)
                    refine f_tst (P := fun c H1 => _) hA fun hA => ?_
                    exact hm H hA
                ·
                  replace hA : At K g [some (.dat ((eT (eP2 eS eI)) a.1)), some (.dat (eI a.2.1)), some (.dat ((eL (eP2 eI eS)) a.2.2)), none, none, some (.dat (eI b10)), some (.dat ((eL eS) r13.2)), some (.dat (eS word_14)), none, some (.dat ((eP2 (eT (eP2 eS eI)) eI) r18)), none] _ _ _ := hA
                  refine f_ifS hm (fun hm => ?_) (fun hm => ?_)
                  ·
                    refine bj_go hA hm ?_
                    change BJ K _ [some (.dat ((eT (eP2 eS eI)) a.1)), some (.dat (eI a.2.1)), some (.dat ((eL (eP2 eI eS)) a.2.2)), none, none, some (.dat (eI b10)), some (.dat ((eL eS) r13.2)), some (.dat (eS word_14)), none, some (.dat ((eP2 (eT (eP2 eS eI)) eI) r18)), none] _ _ _ _ _
                    refine bj_assoc ?_
                    refine fun g σ H D hA hm => x_ret ?_
                    refine ev_bl _ _ _ _ _ hA fun v H hA => ?_
                    exact hm v H _ (hA.weak1 (.d (.d (.d .nil))) fun j z => nomatch z)
                  ·
                    refine bj_go hA hm ?_
                    change BJ K _ [some (.dat ((eT (eP2 eS eI)) a.1)), some (.dat (eI a.2.1)), some (.dat ((eL (eP2 eI eS)) a.2.2)), none, none, some (.dat (eI b10)), some (.dat ((eL eS) r13.2)), some (.dat (eS word_14)), none, some (.dat ((eP2 (eT (eP2 eS eI)) eI) r18)), none] _ _ _ _ _
                    refine bj_pass ?_
                    exact bj_nx (a := word_14) (.s (.s (.s (.d (.d (.d (.s (.s (.d (.d (.d .nil)))))))))))
              ·
                refine HJ.cons (io := (some 8)) (sub := sub_BadNumber) (fun nm r h => T.sub_BadNumber nm r h) ?_ (fun x15 ax dx => ?_) ?_
                · intro i z; cases z; exact ⟨(show 8 < 11 by decide), fun a => .inl rfl, fun a => .inl rfl, fun a => .inl rfl⟩
                ·
                  change BJ K _ [some (.dat ((eT (eP2 eS eI)) a.1)), some (.dat (eI a.2.1)), some (.dat ((eL (eP2 eI eS)) a.2.2)), none, none, none, some (.dat ((eL eS) r13.2)), some (.dat (eS word_14)), some (.dat (eX ax dx x15)), none, none] _ _ _ _ _
                  refine fun g σ H D hA hm => x_asg ?_
                  refine x_xfm (x := x15) (cn := "BadNumber") T.ec_BadNumber rfl hA hm fun t23 v H hA hm => ?_
                  refine f_str hA hm fun t24 hA hm => ?_
                  refine f_setgo hA (fun j z => nomatch z) rfl hm ?_
                  change BJ K _ [some (.dat ((eT (eP2 eS eI)) a.1)), some (.dat (eI a.2.1)), some (.dat ((eL (eP2 eI eS)) a.2.2)), none, none, none, some (.dat ((eL eS) r13.2)), some (.dat (eS t24)), some (.dat (eX ax dx x15)), none, none] _ _ _ _ _
                  exact bj_nx (a := t24) (.s (.s (.s (.d (.d (.d (.s (.s (.d (.d (.d .nil)))))))))))
                exact HJ.nil
            ·
              change BJ K _ [some (.dat ((eT (eP2 eS eI)) a.1)), some (.dat (eI a.2.1)), some (.dat ((eL (eP2 eI eS)) a.2.2)), none, none, none, some (.dat ((eL eS) r13.2)), some (.dat (eS s16)), none, none, none] _ _ _ _ _
              refine fun g σ H D hA hm => x_ifS ?_
              refine x_test ?_
              refine x_op ?_
              refine (ev_var rfl) _ _ _ _ _ hA fun v H hA => ?_
              refine x_op ?_
              refine (ev_lst [eS ("place" : Str), eS ("" : Str)] (ea_cons ev_str (ea_cons ev_str ea_nil))) _ _ _ _ _ hA fun v H hA => ?_
              refine (ev_cb1 (ev_var rfl) (o1_lenT r13.2 eS (.l .dat))) _ _ _ _ _ hA fun v H hA => ?_
              refine f_o2m (o2_idxL (xs := [("place" : Str), ("" : Str)]) (e := eS) .own) hA hm fun t25 v H hA hm => ?_
              refine o2_neS _ _ _ _ _ _ _ hA fun v H hA => ?_
              refine f_tst (P := fun c H1 => _) hA fun hA => ?_
              refine f_ifS hm (fun hm => ?_) (fun hm => ?_)
              ·
                refine bj_go hA hm ?_
                change BJ K _ [some (.dat ((eT (eP2 eS eI)) a.1)), some (.dat (eI a.2.1)), some (.dat ((eL (eP2 eI eS)) a.2.2)), none, none, none, some (.dat ((eL eS) r13.2)), some (.dat (eS s16)), none, none, none] _ _ _ _ _
                refine bj_assoc ?_
                refine fun g σ H D hA hm => x_ret ?_
                refine ev_bl _ _ _ _ _ hA fun v H hA => ?_
                exact hm v H _ (hA.weak1 (.d (.d (.d .nil))) fun j z => nomatch z)
              ·
                refine bj_go hA hm ?_
                change BJ K _ [some (.dat ((eT (eP2 eS eI)) a.1)), some (.dat (eI a.2.1)), some (.dat ((eL (eP2 eI eS)) a.2.2)), none, none, none, some (.dat ((eL eS) r13.2)), some (.dat (eS s16)), none, none, none] _ _ _ _ _
                refine bj_pass ?_
                exact bj_nx (a := ()) (.s (.s (.s (.d (.d (.d (.d (.d (.d (.d (.d .nil)))))))))))
        ·
          change BJ K _ [some (.dat ((eT (eP2 eS eI)) a.1)), some (.dat (eI a.2.1)), some (.dat ((eL (eP2 eI eS)) a.2.2)), none, none, none, none, none, none, none, none] _ _ _ _ _
          refine fun g σ H D hA hm => x_ret ?_
          refine ev_bl _ _ _ _ _ hA fun v H hA => ?_
          exact hm v H _ (hA.weak1 (.d (.d (.d .nil))) fun j z => nomatch z)
theorem ok_law_word (T : Txt K mg Z) : FnOk P w K mg base (L2.CX P w) 8 Z.f_law_word Z.d_law_word ["word", "row", "delay", "more"] (Spec K Z.ec 4 pre_law_word f_law_word post_law_word ret_law_word) := by
  refine fn_ok T.d_law_word.F sc_law_word rfl m_law_word fun cdv A outer s H E hr => ?_
  refine ⟨_, (pss_cons (ps_try rfl rfl sc_law_word.nd (takes_of rfl rfl rfl rfl) (fun W pn xe tk' pso => (pss_cons (ps_if (pt_cmpR op_eq (pv 0) pe_int (nomark _)) (pss_cons (ps_expr (pe_callS (ok_check_timer_row (K := K) T) (hr.mono (by decide)) (by rfl) T.d_check_timer_row.g T.d_check_timer_row.F.kp T.d_check_timer_row.b (fun σ => passAt tk' σ) (pa_cons (pv 1) pa_nil)))
  pss_nil) (pss_cons (ps_if (pt_cmpR op_eq (pv 0) pe_int (nomark _)) (pss_cons (ps_expr (pe_callKS (ok_row_bits (K := K) T) (hr.mono (by decide)) (by rfl) T.d_row_bits.g T.d_row_bits.F.kp T.d_row_bits.b (fun σ => passAt tk' σ) (pa_cons (pv 1) (pa_cons (pv 3) pa_nil)) (pk_cons (pv 2) pk_nil)))
  pss_nil) (pss_cons (ps_if (pt_cmpR op_eq (pv 0) pe_int (nomark _)) (pss_cons (ps_expr (pe_callKS (ok_normal (K := K) T) (hr.mono (by decide)) (by rfl) T.d_normal.g T.d_normal.F.kp T.d_normal.b (fun σ => passAt tk' σ) (pa_cons (pv 1) pa_nil) (pk_cons (pv 2) pk_nil)))
  pss_nil) (pss_cons (ps_if (pt_cmpR op_eq (pv 0) pe_int (nomark _)) (pss_cons (ps_expr (pe_callS (ok_one_rule (K := K) T) (hr.mono (by decide)) (by rfl) T.d_one_rule.g T.d_one_rule.F.kp T.d_one_rule.b (fun σ => passAt tk' σ) (pa_cons (pv 1) (pa_cons (pv 2) pa_nil))))
  pss_nil) (pss_cons (ps_if (pt_cmpR op_eq (pv 0) pe_int (nomark _)) (pss_cons (ps_expr (pe_callS (ok_rules_at (K := K) T) (hr.mono (by decide)) (by rfl) T.d_rules_at.g T.d_rules_at.F.kp T.d_rules_at.b (fun σ => passAt tk' σ) (pa_cons (pv 1) pa_nil)))
  pss_nil) (pss_cons (ps_expr (pe_callS (ok_use (K := K) T) (hr.mono (by decide)) (by rfl) T.d_use.g T.d_use.F.kp T.d_use.b (fun σ => passAt tk' σ) (pa_cons (pv 1) (pa_cons (pv 2) (pa_cons (pv 3) pa_nil)))))
  pss_nil))
  pss_nil))
  pss_nil))
  pss_nil))
  pss_nil))
  pss_nil)) (HsOk.named (i := 4) ⟨by rfl, by decide, .inl T.x_BadNumber.g⟩ rfl rfl (fun a oe cls d pn hz hf => (pss_cons (ps_ret (pe_xf T.x_BadNumber.xf (T.x_BadNumber.no _ (by decide)) hz hf (pv 4)))
  pss_nil)) (HsOk.named (i := 4) ⟨by rfl, by decide, .inl T.x_BadRow.g⟩ rfl rfl (fun a oe cls d pn hz hf => (pss_cons (ps_ret (pe_xf T.x_BadRow.xf (T.x_BadRow.no _ (by decide)) hz hf (pv 4)))
  pss_nil)) HsOk.nil)))
  (pss_cons (ps_ret pe_str)
  pss_nil)), ?_⟩
  intro a as _
  change BJ K _ [some (.dat (eI a.1)), some (.dat (eD a.2.1)), some (.dat (eD a.2.2.1)), some (.dat (eD a.2.2.2)), none] _ _ _ _ _
  refine bj_seq (n1 := fun (s2 : Unit) => [none, none, none, none, none]) ?_ (fun s2 => ?_)
  ·
    refine bj_try (Gt := [none, none, none, none, none]) ?_ ?_ (fun W => ?_) ?_
    · rfl
    · exact .nil
    ·
      change BJ K _ [some (.dat (eI a.1)), some (.dat (eD a.2.1)), some (.dat (eD a.2.2.1)), some (.dat (eD a.2.2.2)), none] _ _ _ _ _
      refine bj_ifL (evb_test (ev_op (ev_var rfl) ev_int o2_eqI)) ?_ ?_
      ·
        refine bj_assoc ?_
        refine fun g σ H D hA hm => x_drop ?_
        refine x_call1 ?_
        refine (ev_var rfl) _ _ _ _ _ hA fun v H hA => ?_
        refine f_call [.d (eD a.2.1)] a.2.1 (fun r => []) hA rfl rfl True.intro (fun as h => match as, h with | [], _ => rfl) (fun _ => rfl) (fun r as h => match as, h with | [], _ => rfl) (fun r j z => nomatch z) (.d (.d (.d (.d (.d .nil))))) (hm.bindR.imp (fun r3 hm v H hA => ?_) fun _ q => q)
        refine f_dropgo hA hm ?_
        change BJ K _ [some (.dat (eI a.1)), some (.dat (eD a.2.1)), some (.dat (eD a.2.2.1)), some (.dat (eD a.2.2.2)), none] _ _ _ _ _
        refine bj_pass ?_
        exact bj_nx (a := ()) (.d (.d (.d (.d (.d .nil)))))
      ·
        refine bj_assoc ?_
        refine bj_ifL (evb_test (ev_op (ev_var rfl) ev_int o2_eqI)) ?_ ?_
        ·
          refine bj_assoc ?_
          refine fun g σ H D hA hm => x_drop ?_
          refine x_callK2 ?_
          refine (ev_var rfl) _ _ _ _ _ hA fun v H hA => ?_
          refine (ev_var rfl) _ _ _ _ _ hA fun v H hA => ?_
          refine (ev_var rfl) _ _ _ _ _ hA fun v H hA => ?_
          refine ⟨rfl, rfl, ?_⟩
          refine f_call [.d (eD a.2.1), .d (eD a.2.2.2), .d (eD a.2.2.1)] (a.2.1, a.2.2.2, a.2.2.1) (fun r => []) hA rfl rfl True.intro (fun as h => match as, h with | [], _ => rfl) (fun _ => rfl) (fun r as h => match as, h with | [], _ => rfl) (fun r j z => nomatch z) (.d (.d (.d (.d (.d .nil))))) (hm.bindR.imp (fun r4 hm v H hA => ?_) fun _ q => q)
          refine f_dropgo hA hm ?_
          change BJ K _ [some (.dat (eI a.1)), some (.dat (eD a.2.1)), some (.dat (eD a.2.2.1)), some (.dat (eD a.2.2.2)), none] _ _ _ _ _
          refine bj_pass ?_
          refine bj_pass ?_
          exact bj_nx (a := ()) (.d (.d (.d (.d (.d .nil)))))
        ·
          refine bj_assoc ?_
          refine bj_ifL (evb_test (ev_op (ev_var rfl) ev_int o2_eqI)) ?_ ?_
          ·
            refine bj_assoc ?_
            refine fun g σ H D hA hm => x_drop ?_
            refine x_callK1 ?_
            refine (ev_var rfl) _ _ _ _ _ hA fun v H hA => ?_
            refine (ev_var rfl) _ _ _ _ _ hA fun v H hA => ?_
            refine ⟨rfl, rfl, ?_⟩
            refine f_call [.d (eD a.2.1), .d (eD a.2.2.1)] (a.2.1, a.2.2.1) (fun r => []) hA rfl rfl True.intro (fun as h => match as, h with | [], _ => rfl) (fun _ => rfl) (fun r as h => match as, h with | [], _ => rfl) (fun r j z => nomatch z) (.d (.d (.d (.d (.d .nil))))) (hm.bindR.imp (fun r5 hm v H hA => ?_) fun _ q => q)
            refine f_dropgo hA hm ?_
            change BJ K _ [some (.dat (eI a.1)), some (.dat (eD a.2.1)), some (.dat (eD a.2.2.1)), some (.dat (eD a.2.2.2)), none] _ _ _ _ _
            refine bj_pass ?_
            refine bj_pass ?_
            refine bj_pass ?_
            exact bj_nx (a := ()) (.d (.d (.d (.d (.d .nil)))))
          ·
            refine bj_assoc ?_
            refine bj_ifL (evb_test (ev_op (ev_var rfl) ev_int o2_eqI)) ?_ ?_
            ·
              refine bj_assoc ?_
              refine fun g σ H D hA hm => x_drop ?_
              refine x_call2 ?_
              refine (ev_var rfl) _ _ _ _ _ hA fun v H hA => ?_
              refine (ev_var rfl) _ _ _ _ _ hA fun v H hA => ?_
              refine f_call [.d (eD a.2.1), .d (eD a.2.2.1)] (a.2.1, a.2.2.1) (fun r => []) hA rfl rfl True.intro (fun as h => match as, h with | [], _ => rfl) (fun _ => rfl) (fun r as h => match as, h with | [], _ => rfl) (fun r j z => nomatch z) (.d (.d (.d (.d (.d .nil))))) (hm.bindR.imp (fun r6 hm v H hA => ?_) fun _ q => q)
              refine f_dropgo hA hm ?_
              change BJ K _ [some (.dat (eI a.1)), some (.dat (eD a.2.1)), some (.dat (eD a.2.2.1)), some (.dat (eD a.2.2.2)), none] _ _ _ _ _
              refine bj_pass ?_
              refine bj_pass ?_
              refine bj_pass ?_
              refine bj_pass ?_
              exact bj_nx (a := ()) (.d (.d (.d (.d (.d .nil)))))
            ·
              refine bj_assoc ?_
              refine bj_ifL (evb_test (ev_op (ev_var rfl) ev_int o2_eqI)) ?_ ?_
              ·
                refine bj_assoc ?_
                refine fun g σ H D hA hm => x_drop ?_
                refine x_call1 ?_
                refine (ev_var rfl) _ _ _ _ _ hA fun v H hA => ?_
                refine f_call [.d (eD a.2.1)] a.2.1 (fun r => []) hA rfl rfl True.intro (fun as h => match as, h with | [], _ => rfl) (fun _ => rfl) (fun r as h => match as, h with | [], _ => rfl) (fun r j z => nomatch z) (.d (.d (.d (.d (.d .nil))))) (hm.bindR.imp (fun r7 hm v H hA => ?_) fun _ q => q)
                refine f_dropgo hA hm ?_
                change BJ K _ [some (.dat (eI a.1)), some (.dat (eD a.2.1)), some (.dat (eD a.2.2.1)), some (.dat (eD a.2.2.2)), none] _ _ _ _ _
                refine bj_pass ?_
                refine bj_pass ?_
                refine bj_pass ?_
                refine bj_pass ?_
                refine bj_pass ?_
                exact bj_nx (a := ()) (.d (.d (.d (.d (.d .nil)))))
              ·
                refine bj_assoc ?_
                refine fun g σ H D hA hm => x_drop ?_
                refine x_call3 ?_
                refine (ev_var rfl) _ _ _ _ _ hA fun v H hA => ?_
                refine (ev_var rfl) _ _ _ _ _ hA fun v H hA => ?_
                refine (ev_var rfl) _ _ _ _ _ hA fun v H hA => ?_
                refine f_call [.d (eD a.2.1), .d (eD a.2.2.1), .d (eD a.2.2.2)] (a.2.1, a.2.2.1, a.2.2.2) (fun r => []) hA rfl rfl True.intro (fun as h => match as, h with | [], _ => rfl) (fun _ => rfl) (fun r as h => match as, h with | [], _ => rfl) (fun r j z => nomatch z) (.d (.d (.d (.d (.d .nil))))) (hm.bindR.imp (fun r8 hm v H hA => ?_) fun _ q => q)
                refine f_dropgo hA hm ?_
                change BJ K _ [some (.dat (eI a.1)), some (.dat (eD a.2.1)), some (.dat (eD a.2.2.1)), some (.dat (eD a.2.2.2)), none] _ _ _ _ _
                refine bj_pass ?_
                refine bj_pass ?_
                refine bj_pass ?_
                refine bj_pass ?_
                refine bj_pass ?_
                exact bj_nx (a := ()) (.d (.d (.d (.d (.d .nil)))))
    ·
      refine HJ.cons (io := (some 4)) (sub := sub_BadNumber) (fun nm r h => T.sub_BadNumber nm r h) ?_ (fun x1 ax dx => ?_) ?_
      · intro i z; cases z; exact ⟨(show 4 < 5 by decide), fun a => .inl rfl, fun a => a.elim, fun a => a.elim⟩
      ·
        change BJ K _ [none, none, none, none, some (.dat (eX ax dx x1))] _ _ _ _ _
        refine fun g σ H D hA hm => x_ret ?_
        refine x_xfm (x := x1) (cn := "BadNumber") T.ec_BadNumber rfl hA hm fun t9 v H hA hm => ?_
        exact hm v H _ (hA.weak1 (.d (.d (.d (.d .nil)))) fun j z => nomatch z)
      refine HJ.cons (io := (some 4)) (sub := sub_BadRow) (fun nm r h => T.sub_BadRow nm r h) ?_ (fun x1 ax dx => ?_) ?_
      · intro i z; cases z; exact ⟨(show 4 < 5 by decide), fun a => .inl rfl, fun a => a.elim, fun a => a.elim⟩
      ·
        change BJ K _ [none, none, none, none, some (.dat (eX ax dx x1))] _ _ _ _ _
        refine fun g σ H D hA hm => x_ret ?_
        refine x_xfm (x := x1) (cn := "BadRow") T.ec_BadRow rfl hA hm fun t10 v H hA hm => ?_
        exact hm v H _ (hA.weak1 (.d (.d (.d (.d .nil)))) fun j z => nomatch z)
      exact HJ.nil
  ·
    change BJ K _ [none, none, none, none, none] _ _ _ _ _
    refine fun g σ H D hA hm => x_ret ?_
    refine ev_str _ _ _ _ _ hA fun v H hA => ?_
    replace hA := hA.box (Bx.hd (x := ("let" : Str)) bx_s)
    exact hm v H _ (hA.weak1 (.d (.d (.d (.d .nil)))) fun j z => nomatch z)
theorem ok_law_refusals (T : Txt K mg Z) : FnOk P w K mg base (L2.CX P w) 9 Z.f_law_refusals Z.d_law_refusals ["row"] (Spec K Z.ec 1 pre_law_refusals f_law_refusals post_law_refusals ret_law_refusals) := by
  refine fn_ok T.d_law_refusals.F sc_law_refusals rfl m_law_refusals fun cdv A outer s H E hr => ?_
  refine ⟨_, (pss_cons (ps_set (i := 1) sc_law_refusals.nd rfl (Or.inl rfl) (pe_lst (pa_cons (pe_tup (pa_cons (pe_tup (pa_cons pe_str (pa_cons (pe_un un_neg pe_int) pa_nil))) pa_nil)) (pa_cons (pe_tup (pa_cons (pe_tup (pa_cons pe_str (pa_cons pe_int pa_nil))) pa_nil)) (pa_cons (pe_tup (pa_cons (pe_tup (pa_cons pe_str (pa_cons pe_bl pa_nil))) pa_nil)) (pa_cons (pe_tup (pa_cons (pe_tup (pa_cons pe_str (pa_cons pe_int pa_nil))) pa_nil)) (pa_cons (pe_tup (pa_cons (pe_tup (pa_cons pe_str (pa_cons pe_int (pa_cons pe_int pa_nil)))) pa_nil)) (pa_cons (pe_tup (pa_cons pe_int pa_nil)) (pa_cons (pe_tup (pa_cons (pe_tup (pa_cons pe_str (pa_cons pe_str pa_nil))) pa_nil)) pa_nil)))))))))
  (pss_cons (ps_for (passes_of rfl) rfl (pi_list (pe_op op_cat (pe_op op_cat (pe_lst (pa_cons pe_str (pa_cons pe_non pa_nil))) (pe_lc (own := [("clocks", 5)]) (g := gName 5) rfl sc_law_refusals.nd (pi_list (pv 1)) (blkOk_by (N := ["row", "bad", "worse", "word", "told", "clocks"]) (sc := defScope st_law_refusals) (by decide +kernel)) (fun _ _ _ _ _ => (pg_name (i := 5) sc_law_refusals.nd rfl (Or.inl rfl))) (fun _ _ _ _ _ => pts_nil) (fun _ _ _ _ _ => (pe_op (r := rCatA K) op_catA (pv 0) (pv 5))))) (pe_lc (own := [("clocks", 5)]) (g := gName 5) rfl sc_law_refusals.nd (pi_list (pv 1)) (blkOk_by (N := ["row", "bad", "worse", "word", "told", "clocks"]) (sc := defScope st_law_refusals) (by decide +kernel)) (fun _ _ _ _ _ => (pg_name (i := 5) sc_law_refusals.nd rfl (Or.inl rfl))) (fun _ _ _ _ _ => pts_nil) (fun _ _ _ _ _ => (pe_op (r := rCatA K) op_catA (pv 5) (pv 0)))))) (pg_name (i := 2) sc_law_refusals.nd rfl (Or.inl rfl)) (pss_cons (ps_for (passes_of rfl) rfl (pi_range1 (by rfl) T.z_range (pa_cons pe_int pa_nil)) (pg_name (i := 3) sc_law_refusals.nd rfl (Or.inl rfl)) (pss_cons (ps_if (pt_cmpR (r := rNeD K) (op_neD hr.units) (pe_callS (ok_law_word (K := K) T) (hr.mono (by decide)) (by rfl) T.d_law_word.g T.d_law_word.F.kp T.d_law_word.b (fun σ => passAt (takes_of rfl rfl rfl rfl) σ) (pa_cons (pv 3) (pa_cons (pv 2) (pa_cons (pe_un un_neg pe_int) (pa_cons pe_int pa_nil))))) pe_str (nomark _)) (pss_cons (ps_ret pe_bl)
  pss_nil) pss_nil)
  pss_nil))
  pss_nil))
  (pss_cons (ps_for (passes_of rfl) rfl (pi_tup (pe_tup (pa_cons pe_int (pa_cons pe_int (pa_cons pe_int pa_nil))))) (pg_name (i := 3) sc_law_refusals.nd rfl (Or.inl rfl)) (pss_cons (ps_if (pw_or (pt_cmpR (r := rNeD K) (op_neD hr.units) (pe_callS (ok_law_word (K := K) T) (hr.mono (by decide)) (by rfl) T.d_law_word.g T.d_law_word.F.kp T.d_law_word.b (fun σ => passAt (takes_of rfl rfl rfl rfl) σ) (pa_cons (pv 3) (pa_cons (pv 0) (pa_cons (pe_un un_neg pe_int) (pa_cons pe_int pa_nil))))) pe_str (nomark _)) (pw_or1 (pt_cmpR (r := rNeD K) (op_neD hr.units) (pe_callS (ok_law_word (K := K) T) (hr.mono (by decide)) (by rfl) T.d_law_word.g T.d_law_word.F.kp T.d_law_word.b (fun σ => passAt (takes_of rfl rfl rfl rfl) σ) (pa_cons (pv 3) (pa_cons (pv 0) (pa_cons pe_bl (pa_cons pe_int pa_nil))))) pe_str (nomark _)))).pt (pss_cons (ps_ret pe_bl)
  pss_nil) pss_nil)
  pss_nil))
  (pss_cons (ps_if (pt_cmpR (r := rNeD K) (op_neD hr.units) (pe_lst (pa_cons (pe_callS (ok_law_word (K := K) T) (hr.mono (by decide)) (by rfl) T.d_law_word.g T.d_law_word.F.kp T.d_law_word.b (fun σ => passAt (takes_of rfl rfl rfl rfl) σ) (pa_cons pe_int (pa_cons (pv 0) (pa_cons (pe_un un_neg pe_int) (pa_cons (pe_tup (pa_cons pe_int (pa_cons pe_int pa_nil))) pa_nil))))) (pa_cons (pe_callS (ok_law_word (K := K) T) (hr.mono (by decide)) (by rfl) T.d_law_word.g T.d_law_word.F.kp T.d_law_word.b (fun σ => passAt (takes_of rfl rfl rfl rfl) σ) (pa_cons pe_int (pa_cons (pv 0) (pa_cons (pe_un un_neg pe_int) (pa_cons (pe_tup (pa_cons pe_int (pa_cons pe_int pa_nil))) pa_nil))))) (pa_cons (pe_callS (ok_law_word (K := K) T) (hr.mono (by decide)) (by rfl) T.d_law_word.g T.d_law_word.F.kp T.d_law_word.b (fun σ => passAt (takes_of rfl rfl rfl rfl) σ) (pa_cons pe_int (pa_cons (pv 0) (pa_cons pe_int (pa_cons pe_int pa_nil))))) pa_nil)))) (pe_lst (pa_cons pe_int (pa_cons pe_str (pa_cons (pe_un un_neg pe_int) pa_nil)))) (nomark _)) (pss_cons (ps_ret pe_bl)
  pss_nil) pss_nil)
  (pss_cons (ps_set (i := 4) sc_law_refusals.nd rfl (Or.inl rfl) (pe_lst (pa_cons (pe_callS (ok_law_word (K := K) T) (hr.mono (by decide)) (by rfl) T.d_law_word.g T.d_law_word.F.kp T.d_law_word.b (fun σ => passAt (takes_of rfl rfl rfl rfl) σ) (pa_cons pe_int (pa_cons (pv 0) (pa_cons pe_int (pa_cons (pe_callB (r := rLen K) c_len (by rfl) T.z_len (by decide +kernel) (pa_cons (pv 0) pa_nil)) pa_nil))))) (pa_cons (pe_callS (ok_law_word (K := K) T) (hr.mono (by decide)) (by rfl) T.d_law_word.g T.d_law_word.F.kp T.d_law_word.b (fun σ => passAt (takes_of rfl rfl rfl rfl) σ) (pa_cons pe_int (pa_cons (pv 0) (pa_cons pe_int (pa_cons pe_bl pa_nil))))) (pa_cons (pe_callS (ok_law_word (K := K) T) (hr.mono (by decide)) (by rfl) T.d_law_word.g T.d_law_word.F.kp T.d_law_word.b (fun σ => passAt (takes_of rfl rfl rfl rfl) σ) (pa_cons pe_int (pa_cons (pe_lst pa_nil) (pa_cons pe_int (pa_cons pe_int pa_nil))))) pa_nil)))))
  (pss_cons (ps_ret (pe_cmpR (r := rEqD K) (op_eqD hr.units) (pv 4) (pe_lst (pa_cons pe_str (pa_cons pe_str (pa_cons pe_str pa_nil)))) (nomark _)))
  pss_nil)))))), ?_⟩
  intro a as _
  change BJ K _ [some (.dat ((eT (eP2 eS eI)) a)), none, none, none, none, none] _ _ _ _ _
  refine fun g σ H D hA hm => x_asg ?_
  refine (ev_lst [eD ((dP1 (dP2 PyData.str PyData.int)) (("on" : Str), (-(1 : Int)))), eD ((dP1 (dP2 PyData.str PyData.int)) (("On" : Str), (1 : Int))), eD ((dP1 (dP2 PyData.str PyData.bool)) (("on" : Str), true)), eD ((dP1 (dP2 PyData.str PyData.int)) (("pulse" : Str), (1 : Int))), eD ((dP1 (dP3 PyData.str PyData.int PyData.int)) (("on" : Str), (1 : Int), (1 : Int))), eD ((dP1 PyData.int) (3 : Int)), eD ((dP1 (dP2 PyData.str PyData.str)) (("off" : Str), ("1" : Str)))] (ea_cons (ev_box (bx_p1 (bx_p2 bx_s bx_i)) (ev_tup [(eP2 eS eI) (("on" : Str), (-(1 : Int)))] (ea_cons (ev_tup [eS ("on" : Str), eI (-(1 : Int))] (ea_cons ev_str (ea_cons (ev_un ev_int o1_neg) ea_nil))) ea_nil))) (ea_cons (ev_box (bx_p1 (bx_p2 bx_s bx_i)) (ev_tup [(eP2 eS eI) (("On" : Str), (1 : Int))] (ea_cons (ev_tup [eS ("On" : Str), eI (1 : Int)] (ea_cons ev_str (ea_cons ev_int ea_nil))) ea_nil))) (ea_cons (ev_box (bx_p1 (bx_p2 bx_s bx_b)) (ev_tup [(eP2 eS eB) (("on" : Str), true)] (ea_cons (ev_tup [eS ("on" : Str), eB true] (ea_cons ev_str (ea_cons ev_bl ea_nil))) ea_nil))) (ea_cons (ev_box (bx_p1 (bx_p2 bx_s bx_i)) (ev_tup [(eP2 eS eI) (("pulse" : Str), (1 : Int))] (ea_cons (ev_tup [eS ("pulse" : Str), eI (1 : Int)] (ea_cons ev_str (ea_cons ev_int ea_nil))) ea_nil))) (ea_cons (ev_box (bx_p1 (bx_p3 bx_s bx_i bx_i)) (ev_tup [(eP3 eS eI eI) (("on" : Str), (1 : Int), (1 : Int))] (ea_cons (ev_tup [eS ("on" : Str), eI (1 : Int), eI (1 : Int)] (ea_cons ev_str (ea_cons ev_int (ea_cons ev_int ea_nil)))) ea_nil))) (ea_cons (ev_box (bx_p1 bx_i) (ev_tup [eI (3 : Int)] (ea_cons ev_int ea_nil))) (ea_cons (ev_box (bx_p1 (bx_p2 bx_s bx_s)) (ev_tup [(eP2 eS eS) (("off" : Str), ("1" : Str))] (ea_cons (ev_tup [eS ("off" : Str), eS ("1" : Str)] (ea_cons ev_str (ea_cons ev_str ea_nil))) ea_nil))) ea_nil)))))))) _ _ _ _ _ hA fun v H hA => ?_
  replace hA := hA.frz
  refine f_setlt (e := [((dP1 (dP2 PyData.str PyData.int)) (("on" : Str), (-(1 : Int)))), ((dP1 (dP2 PyData.str PyData.int)) (("On" : Str), (1 : Int))), ((dP1 (dP2 PyData.str PyData.bool)) (("on" : Str), true)), ((dP1 (dP2 PyData.str PyData.int)) (("pulse" : Str), (1 : Int))), ((dP1 (dP3 PyData.str PyData.int PyData.int)) (("on" : Str), (1 : Int), (1 : Int))), ((dP1 PyData.int) (3 : Int)), ((dP1 (dP2 PyData.str PyData.str)) (("off" : Str), ("1" : Str)))]) (fun t => .dat ((eL eD) t)) hA (fun t j z => nomatch z) rfl hm (fun bad_1 => ?_)
  change BJ K _ [some (.dat ((eT (eP2 eS eI)) a)), some (.dat ((eL eD) bad_1)), none, none, none, none] _ _ _ _ _
  refine fun g σ H D hA hm => ?_
  refine x_forL ?_
  refine x_op ?_
  refine x_op ?_
  refine (ev_lst [eD (PyData.str ("on" : Str)), eD (dN ())] (ea_cons (ev_box bx_s ev_str) (ea_cons (ev_box bx_n ev_non) ea_nil))) _ _ _ _ _ hA fun v H hA => ?_
  refine x_lcL ?_
  refine (ev_var rfl) _ _ _ _ _ hA fun v H hA => ?_
  refine wk_list (xs := bad_1) (e := eD) hA (f_lcW (e := eD) (enc := eD) (js := [5]) (ps := fun b2 => [eD b2]) (fun (s3 : Unit) => [some (.dat ((eT (eP2 eS eI)) a)), some (.dat ((eL eD) bad_1)), none, none, none, none]) (()) (fun b => tj_name) (by decide) (hnl fun s => rfl) (hnl fun s => rfl) (by decide) (lj_fwd fun s3 b2 g σ τ H Q Qn hA hm => ?_) hm (fun r4 v H hA hm => ?_))
  ·
    replace hA : At K g [some (.dat ((eT (eP2 eS eI)) a)), some (.dat ((eL eD) bad_1)), none, none, none, some (.dat (eD b2))] _ _ _ := hA
    refine x_yes ?_
    refine x_op ?_
    refine (ev_var rfl) _ _ _ _ _ hA fun v H hA => ?_
    replace hA := hA.box (boxT (bx_p2 bx_s bx_i))
    refine (ev_var rfl) _ _ _ _ _ hA fun v H hA => ?_
    refine f_tupD hA hm fun t5 hA hm => ?_
    refine f_o2m (o2_catT (xs := (List.map (dP2 PyData.str PyData.int) a)) (ys := t5) (e := eD)) hA hm fun t6 v H hA hm => ?_
    replace hA := hA.box (Bx.hd (x := t6) (bx_t bx_d))
    exact hm v H hA
  ·
    replace hA : At K g [some (.dat ((eT (eP2 eS eI)) a)), some (.dat ((eL eD) bad_1)), none, none, none, none] _ _ _ := hA
    refine f_o2m (o2_catL (xs := [(PyData.str ("on" : Str)), (dN ())]) (ys := r4.2) (e := eD) .own .own) hA hm fun t7 v H hA hm => ?_
    refine x_lcL ?_
    refine (ev_var rfl) _ _ _ _ _ hA fun v H hA => ?_
    refine wk_list (xs := bad_1) (e := eD) hA (f_lcW (e := eD) (enc := eD) (js := [5]) (ps := fun b8 => [eD b8]) (fun (s9 : Unit) => [some (.dat ((eT (eP2 eS eI)) a)), some (.dat ((eL eD) bad_1)), none, none, none, none]) (()) (fun b => tj_name) (by decide) (hnl fun s => rfl) (hnl fun s => rfl) (by decide) (lj_fwd fun s9 b8 g σ τ H Q Qn hA hm => ?_) hm (fun r10 v H hA hm => ?_))
    ·
      replace hA : At K g [some (.dat ((eT (eP2 eS eI)) a)), some (.dat ((eL eD) bad_1)), none, none, none, some (.dat (eD b8))] _ _ _ := hA
      refine x_yes ?_
      refine x_op ?_
      refine (ev_var rfl) _ _ _ _ _ hA fun v H hA => ?_
      refine f_tupD hA hm fun t11 hA hm => ?_
      refine (ev_var rfl) _ _ _ _ _ hA fun v H hA => ?_
      replace hA := hA.box (boxT (bx_p2 bx_s bx_i))
      refine f_o2m (o2_catT (xs := t11) (ys := (List.map (dP2 PyData.str PyData.int) a)) (e := eD)) hA hm fun t12 v H hA hm => ?_
      replace hA := hA.box (Bx.hd (x := t12) (bx_t bx_d))
      exact hm v H hA
    ·
      replace hA : At K g [some (.dat ((eT (eP2 eS eI)) a)), some (.dat ((eL eD) bad_1)), none, none, none, none] _ _ _ := hA
      refine f_o2m (o2_catL (xs := t7) (ys := r10.2) (e := eD) .own .own) hA hm fun t13 v H hA hm => ?_
      replace hA := hA.frz
      refine wk_list (xs := t13) (e := eD) hA (f_for (e := eD) (fun (s14 : Unit) => [some (.dat ((eT (eP2 eS eI)) a)), none, none, none, none, none]) (s0 := ()) (.s (.d (.d (.d (.d (.d .nil)))))) hm (hb_of (e := eD) (js := [2]) (ps := fun b15 => [eD b15]) (fun b => tj_name) (hjl (n := 6) (fun s => rfl) (by decide)) (fun s14 b15 => ?_)) (fun s14 => ?_))
      ·
        change BJ K _ [some (.dat ((eT (eP2 eS eI)) a)), none, some (.dat (eD b15)), none, none, none] _ _ _ _ _
        refine fun g σ H D hA hm => ?_
        refine x_forR1 ?_
        refine ev_int _ _ _ _ _ hA fun v H hA => ?_
        refine f_rng1 (b := (6 : Int)) hA hm fun hm => f_for (e := eI) (fun (s17 : Unit) => [some (.dat ((eT (eP2 eS eI)) a)), none, some (.dat (eD b15)), none, none, none]) (s0 := ()) (.s (.d (.s (.d (.d (.d .nil)))))) hm (hb_of (e := eI) (js := [3]) (ps := fun b18 => [eI b18]) (fun b => tj_name) (hjl (n := 6) (fun s => rfl) (by decide)) (fun s17 b18 => ?_)) (fun s17 => ?_)
        ·
          change BJ K _ [some (.dat ((eT (eP2 eS eI)) a)), none, some (.dat (eD b15)), some (.dat (eI b18)), none, none] _ _ _ _ _
          refine fun g σ H D hA hm => x_ifS ?_
          refine x_test ?_
          refine x_op ?_
          refine x_call4 ?_
          refine (ev_var rfl) _ _ _ _ _ hA fun v H hA => ?_
          refine (ev_var rfl) _ _ _ _ _ hA fun v H hA => ?_
          refine (ev_un ev_int o1_neg) _ _ _ _ _ hA fun v H hA => ?_
          replace hA := hA.box (Bx.hd (x := (-(1 : Int))) bx_i)
          refine ev_int _ _ _ _ _ hA fun v H hA => ?_
          replace hA := hA.box (Bx.hd (x := (7 : Int)) bx_i)
          refine f_call [.d (eI b18), .d (eD b15), .d (eD (PyData.int (-(1 : Int)))), .d (eD (PyData.int (7 : Int)))] (b18, b15, (PyData.int (-(1 : Int))), (PyData.int (7 : Int))) (fun r => []) hA rfl rfl True.intro (fun as h => match as, h with | [], _ => rfl) (fun _ => rfl) (fun r as h => match as, h with | [], _ => rfl) (fun r j z => nomatch z) .nil (hm.bindR.imp (fun r19 hm v H hA => ?_) fun _ q => q)
          refine ev_str _ _ _ _ _ hA fun v H hA => ?_
          refine f_o2m (o2_neDM (a := r19) (b := (PyData.str ("row" : Str))) dpt_d (.dat bx_s)) hA hm fun t20 v H hA hm => ?_
          refine f_tst (P := fun c H1 => _) hA fun hA => ?_
          refine f_ifS hm (fun hm => ?_) (fun hm => ?_)
          ·
            refine bj_go hA hm ?_
            change BJ K _ [some (.dat ((eT (eP2 eS eI)) a)), none, some (.dat (eD b15)), some (.dat (eI b18)), none, none] _ _ _ _ _
            refine bj_assoc ?_
            refine fun g σ H D hA hm => x_ret ?_
            refine ev_bl _ _ _ _ _ hA fun v H hA => ?_
            exact hm v H _ (hA.weak1 (.d .nil) fun j z => nomatch z)
          ·
            refine bj_go hA hm ?_
            change BJ K _ [some (.dat ((eT (eP2 eS eI)) a)), none, some (.dat (eD b15)), some (.dat (eI b18)), none, none] _ _ _ _ _
            refine bj_pass ?_
            exact bj_nx (a := ()) (.s (.d (.s (.d (.d (.d .nil))))))
        ·
          change BJ K _ [some (.dat ((eT (eP2 eS eI)) a)), none, some (.dat (eD b15)), none, none, none] _ _ _ _ _
          exact bj_nx (a := ()) (.s (.d (.d (.d (.d (.d .nil))))))
      ·
        change BJ K _ [some (.dat ((eT (eP2 eS eI)) a)), none, none, none, none, none] _ _ _ _ _
        refine fun g σ H D hA hm => ?_
        refine x_forT ?_
        refine (ev_tup [eI (2 : Int), eI (3 : Int), eI (5 : Int)] (ea_cons ev_int (ea_cons ev_int (ea_cons ev_int ea_nil)))) _ _ _ _ _ hA fun v H hA => ?_
        refine wk_tup (xs := [((2 : Int), (3 : Int), (5 : Int)).1, ((2 : Int), (3 : Int), (5 : Int)).2.1, ((2 : Int), (3 : Int), (5 : Int)).2.2]) (e := eI) hA (f_for (e := eI) (fun (s21 : Unit) => [some (.dat ((eT (eP2 eS eI)) a)), none, none, none, none, none]) (s0 := ()) (.s (.d (.d (.d (.d (.d .nil)))))) hm (hb_of (e := eI) (js := [3]) (ps := fun b22 => [eI b22]) (fun b => tj_name) (hjl (n := 6) (fun s => rfl) (by decide)) (fun s21 b22 => ?_)) (fun s21 => ?_))
        ·
          change BJ K _ [some (.dat ((eT (eP2 eS eI)) a)), none, none, some (.dat (eI b22)), none, none] _ _ _ _ _
          refine fun g σ H D hA hm => x_ifS ?_
          refine f_joinT (fun (s : Bool) => [some (.dat ((eT (eP2 eS eI)) a)), none, none, some (.dat (eI b22)), none, none]) (fun s => s) hA hm (fun hm => ?_) (fun j23 H hA hm => ?_)
          ·
            refine x_orT ?_
            refine x_test ?_
            refine x_op ?_
            refine x_call4 ?_
            refine (ev_var rfl) _ _ _ _ _ hA fun v H hA => ?_
            refine (ev_var rfl) _ _ _ _ _ hA fun v H hA => ?_
            replace hA := hA.box (Bx.hd (x := a) (bx_t (bx_p2 bx_s bx_i)))
            refine (ev_un ev_int o1_neg) _ _ _ _ _ hA fun v H hA => ?_
            replace hA := hA.box (Bx.hd (x := (-(1 : Int))) bx_i)
            refine ev_int _ _ _ _ _ hA fun v H hA => ?_
            replace hA := hA.box (Bx.hd (x := (99 : Int)) bx_i)
            refine f_call [.d (eI b22), .d (eD ((dT (dP2 PyData.str PyData.int)) a)), .d (eD (PyData.int (-(1 : Int)))), .d (eD (PyData.int (99 : Int)))] (b22, ((dT (dP2 PyData.str PyData.int)) a), (PyData.int (-(1 : Int))), (PyData.int (99 : Int))) (fun r => []) hA rfl rfl True.intro (fun as h => match as, h with | [], _ => rfl) (fun _ => rfl) (fun r as h => match as, h with | [], _ => rfl) (fun r j z => nomatch z) .nil (hm.bindR.imp (fun r24 hm v H hA => ?_) fun _ q => q)
            refine ev_str _ _ _ _ _ hA fun v H hA => ?_
            refine f_o2m (o2_neDM (a := r24) (b := (PyData.str ("delay" : Str))) dpt_d (.dat bx_s)) hA hm fun t25 v H hA hm => ?_
            refine f_tst (P := fun c H1 => _) hA fun hA => ?_
            refine f_pick hm (fun hm => ?_) (fun hm => ?_)
            ·
              exact hm H hA
            ·
              refine x_test ?_
              refine x_op ?_
              refine x_call4 ?_
              refine (ev_var rfl) _ _ _ _ _ hA fun v H hA => ?_
              refine (ev_var rfl) _ _ _ _ _ hA fun v H hA => ?_
              replace hA := hA.box (Bx.hd (x := a) (bx_t (bx_p2 bx_s bx_i)))
              refine ev_bl _ _ _ _ _ hA fun v H hA => ?_
              replace hA := hA.box (Bx.hd (x := true) bx_b)
              refine ev_int _ _ _ _ _ hA fun v H hA => ?_
              replace hA := hA.box (Bx.hd (x := (99 : Int)) bx_i)
              refine f_call [.d (eI b22), .d (eD ((dT (dP2 PyData.str PyData.int)) a)), .d (eD (PyData.bool true)), .d (eD (PyData.int (99 : Int)))] (b22, ((dT (dP2 PyData.str PyData.int)) a), (PyData.bool true), (PyData.int (99 : Int))) (fun r => []) hA rfl rfl True.intro (fun as h => match as, h with | [], _ => rfl) (fun _ => rfl) (fun r as h => match as, h with | [], _ => rfl) (fun r j z => nomatch z) .nil (hm.bindR.imp (fun r26 hm v H hA => ?_) fun _ q => q)
              refine ev_str _ _ _ _ _ hA fun v H hA => ?_
              refine f_o2m (o2_neDM (a := r26) (b := (PyData.str ("delay" : Str))) dpt_d (.dat bx_s)) hA hm fun t27 v H hA hm => ?_
              refine f_tst (P := fun c H1 => _) hA fun hA => ?_
              exact hm H hA
          ·
            replace hA : At K g [some (.dat ((eT (eP2 eS eI)) a)), none, none, some (.dat (eI b22)), none, none] _ _ _ := hA
            refine f_ifS hm (fun hm => ?_) (fun hm => ?_)
            ·
              refine bj_go hA hm ?_
              change BJ K _ [some (.dat ((eT (eP2 eS eI)) a)), none, none, some (.dat (eI b22)), none, none] _ _ _ _ _
              refine bj_assoc ?_
              refine fun g σ H D hA hm => x_ret ?_
              refine ev_bl _ _ _ _ _ hA fun v H hA => ?_
              exact hm v H _ (hA.weak1 (.d .nil) fun j z => nomatch z)
            ·
              refine bj_go hA hm ?_
              change BJ K _ [some (.dat ((eT (eP2 eS eI)) a)), none, none, some (.dat (eI b22)), none, none] _ _ _ _ _
              refine bj_pass ?_
              exact bj_nx (a := ()) (.s (.d (.d (.d (.d (.d .nil))))))
        ·
          change BJ K _ [some (.dat ((eT (eP2 eS eI)) a)), none, none, none, none, none] _ _ _ _ _
          refine fun g σ H D hA hm => x_ifS ?_
          refine x_test ?_
          refine x_op ?_
          refine x_lst ?_
          refine x_cons ?_
          refine x_call4 ?_
          refine ev_int _ _ _ _ _ hA fun v H hA => ?_
          refine (ev_var rfl) _ _ _ _ _ hA fun v H hA => ?_
          replace hA := hA.box (Bx.hd (x := a) (bx_t (bx_p2 bx_s bx_i)))
          refine (ev_un ev_int o1_neg) _ _ _ _ _ hA fun v H hA => ?_
          replace hA := hA.box (Bx.hd (x := (-(1 : Int))) bx_i)
          refine (ev_tup [eI (0 : Int), eI (2 : Int)] (ea_cons ev_int (ea_cons ev_int ea_nil))) _ _ _ _ _ hA fun v H hA => ?_
          replace hA := hA.box (Bx.hd (x := ((0 : Int), (2 : Int))) (bx_p2 bx_i bx_i))
          refine f_call [.d (eI (1 : Int)), .d (eD ((dT (dP2 PyData.str PyData.int)) a)), .d (eD (PyData.int (-(1 : Int)))), .d (eD ((dP2 PyData.int PyData.int) ((0 : Int), (2 : Int))))] ((1 : Int), ((dT (dP2 PyData.str PyData.int)) a), (PyData.int (-(1 : Int))), ((dP2 PyData.int PyData.int) ((0 : Int), (2 : Int)))) (fun r => []) hA rfl rfl True.intro (fun as h => match as, h with | [], _ => rfl) (fun _ => rfl) (fun r as h => match as, h with | [], _ => rfl) (fun r j z => nomatch z) .nil (hm.bindR.imp (fun r28 hm v H hA => ?_) fun _ q => q)
          refine x_cons ?_
          refine x_call4 ?_
          refine ev_int _ _ _ _ _ hA fun v H hA => ?_
          refine (ev_var rfl) _ _ _ _ _ hA fun v H hA => ?_
          replace hA := hA.box (Bx.hd (x := a) (bx_t (bx_p2 bx_s bx_i)))
          refine (ev_un ev_int o1_neg) _ _ _ _ _ hA fun v H hA => ?_
          replace hA := hA.box (Bx.hd (x := (-(1 : Int))) bx_i)
          refine (ev_tup [eI (0 : Int), eI (1 : Int)] (ea_cons ev_int (ea_cons ev_int ea_nil))) _ _ _ _ _ hA fun v H hA => ?_
          replace hA := hA.box (Bx.hd (x := ((0 : Int), (1 : Int))) (bx_p2 bx_i bx_i))
          refine f_call [.d (eI (1 : Int)), .d (eD ((dT (dP2 PyData.str PyData.int)) a)), .d (eD (PyData.int (-(1 : Int)))), .d (eD ((dP2 PyData.int PyData.int) ((0 : Int), (1 : Int))))] ((1 : Int), ((dT (dP2 PyData.str PyData.int)) a), (PyData.int (-(1 : Int))), ((dP2 PyData.int PyData.int) ((0 : Int), (1 : Int)))) (fun r => []) hA rfl rfl True.intro (fun as h => match as, h with | [], _ => rfl) (fun _ => rfl) (fun r as h => match as, h with | [], _ => rfl) (fun r j z => nomatch z) .nil (hm.bindR.imp (fun r29 hm v H hA => ?_) fun _ q => q)
          refine x_cons ?_
          refine x_call4 ?_
          refine ev_int _ _ _ _ _ hA fun v H hA => ?_
          refine (ev_var rfl) _ _ _ _ _ hA fun v H hA => ?_
          replace hA := hA.box (Bx.hd (x := a) (bx_t (bx_p2 bx_s bx_i)))
          refine ev_int _ _ _ _ _ hA fun v H hA => ?_
          replace hA := hA.box (Bx.hd (x := (0 : Int)) bx_i)
          refine ev_int _ _ _ _ _ hA fun v H hA => ?_
          replace hA := hA.box (Bx.hd (x := (5 : Int)) bx_i)
          refine f_call [.d (eI (1 : Int)), .d (eD ((dT (dP2 PyData.str PyData.int)) a)), .d (eD (PyData.int (0 : Int))), .d (eD (PyData.int (5 : Int)))] ((1 : Int), ((dT (dP2 PyData.str PyData.int)) a), (PyData.int (0 : Int)), (PyData.int (5 : Int))) (fun r => []) hA rfl rfl True.intro (fun as h => match as, h with | [], _ => rfl) (fun _ => rfl) (fun r as h => match as, h with | [], _ => rfl) (fun r j z => nomatch z) .nil (hm.bindR.imp (fun r30 hm v H hA => ?_) fun _ q => q)
          refine x_nil ?_
          refine f_lst (vs := [_, _, _]) [eD r28, eD r29, eD r30] hA rfl (Nat.le_of_ble_eq_true rfl) fun v H hA => ?_
          refine (ev_lst [eD (PyData.int (1 : Int)), eD (PyData.str ("delay" : Str)), eD (PyData.int (-(1 : Int)))] (ea_cons (ev_box bx_i ev_int) (ea_cons (ev_box bx_s ev_str) (ea_cons (ev_box bx_i (ev_un ev_int o1_neg)) ea_nil)))) _ _ _ _ _ hA fun v H hA => ?_
          refine f_o2m (o2_neDM (a := ((dL id) ([r28, r29, r30]))) (b := ((dL id) ([(PyData.int (1 : Int)), (PyData.str ("delay" : Str)), (PyData.int (-(1 : Int)))]))) (.lst bx_d .own) (.lst bx_d .own)) hA hm fun t31 v H hA hm => ?_
          refine f_tst (P := fun c H1 => _) hA fun hA => ?_
          refine f_ifS hm (fun hm => ?_) (fun hm => ?_)
          ·
            refine bj_go hA hm ?_
            change BJ K _ [some (.dat ((eT (eP2 eS eI)) a)), none, none, none, none, none] _ _ _ _ _
            refine bj_assoc ?_
            refine fun g σ H D hA hm => x_ret ?_
            refine ev_bl _ _ _ _ _ hA fun v H hA => ?_
            exact hm v H _ (hA.weak1 (.d .nil) fun j z => nomatch z)
          ·
            refine bj_go hA hm ?_
            change BJ K _ [some (.dat ((eT (eP2 eS eI)) a)), none, none, none, none, none] _ _ _ _ _
            refine bj_pass ?_
            refine fun g σ H D hA hm => x_asg ?_
            refine x_lst ?_
            refine x_cons ?_
            refine x_call4 ?_
            refine ev_int _ _ _ _ _ hA fun v H hA => ?_
            refine (ev_var rfl) _ _ _ _ _ hA fun v H hA => ?_
            replace hA := hA.box (Bx.hd (x := a) (bx_t (bx_p2 bx_s bx_i)))
            refine ev_int _ _ _ _ _ hA fun v H hA => ?_
            replace hA := hA.box (Bx.hd (x := (0 : Int)) bx_i)
            refine (ev_cb1 (ev_var rfl) (o1_lenT a (eP2 eS eI) .t)) _ _ _ _ _ hA fun v H hA => ?_
            replace hA := hA.box (Bx.hd (x := ((a).length : Int)) bx_i)
            refine f_call [.d (eI (5 : Int)), .d (eD ((dT (dP2 PyData.str PyData.int)) a)), .d (eD (PyData.int (0 : Int))), .d (eD (PyData.int ((a).length : Int)))] ((5 : Int), ((dT (dP2 PyData.str PyData.int)) a), (PyData.int (0 : Int)), (PyData.int ((a).length : Int))) (fun r => []) hA rfl rfl True.intro (fun as h => match as, h with | [], _ => rfl) (fun _ => rfl) (fun r as h => match as, h with | [], _ => rfl) (fun r j z => nomatch z) .nil (hm.bindR.imp (fun r32 hm v H hA => ?_) fun _ q => q)
            refine x_cons ?_
            refine x_call4 ?_
            refine ev_int _ _ _ _ _ hA fun v H hA => ?_
            refine (ev_var rfl) _ _ _ _ _ hA fun v H hA => ?_
            replace hA := hA.box (Bx.hd (x := a) (bx_t (bx_p2 bx_s bx_i)))
            refine ev_int _ _ _ _ _ hA fun v H hA => ?_
            replace hA := hA.box (Bx.hd (x := (0 : Int)) bx_i)
            refine ev_bl _ _ _ _ _ hA fun v H hA => ?_
            replace hA := hA.box (Bx.hd (x := true) bx_b)
            refine f_call [.d (eI (5 : Int)), .d (eD ((dT (dP2 PyData.str PyData.int)) a)), .d (eD (PyData.int (0 : Int))), .d (eD (PyData.bool true))] ((5 : Int), ((dT (dP2 PyData.str PyData.int)) a), (PyData.int (0 : Int)), (PyData.bool true)) (fun r => []) hA rfl rfl True.intro (fun as h => match as, h with | [], _ => rfl) (fun _ => rfl) (fun r as h => match as, h with | [], _ => rfl) (fun r j z => nomatch z) .nil (hm.bindR.imp (fun r33 hm v H hA => ?_) fun _ q => q)
            refine x_cons ?_
            refine x_call4 ?_
            refine ev_int _ _ _ _ _ hA fun v H hA => ?_
            refine (ev_lst [] ea_nil) _ _ _ _ _ hA fun v H hA => ?_
            replace hA := hA.frz
            replace hA := hA.box (Bx.hd (x := ([] : List Int)) (bx_l bx_i))
            refine ev_int _ _ _ _ _ hA fun v H hA => ?_
            replace hA := hA.box (Bx.hd (x := (0 : Int)) bx_i)
            refine ev_int _ _ _ _ _ hA fun v H hA => ?_
            replace hA := hA.box (Bx.hd (x := (0 : Int)) bx_i)
            refine f_call [.d (eI (0 : Int)), .d (eD ((dL PyData.int) ([] : List Int))), .d (eD (PyData.int (0 : Int))), .d (eD (PyData.int (0 : Int)))] ((0 : Int), ((dL PyData.int) ([] : List Int)), (PyData.int (0 : Int)), (PyData.int (0 : Int))) (fun r => []) hA rfl rfl True.intro (fun as h => match as, h with | [], _ => rfl) (fun _ => rfl) (fun r as h => match as, h with | [], _ => rfl) (fun r j z => nomatch z) .nil (hm.bindR.imp (fun r34 hm v H hA => ?_) fun _ q => q)
            refine x_nil ?_
            refine f_lst (vs := [_, _, _]) [eD r32, eD r33, eD r34] hA rfl (Nat.le_of_ble_eq_true rfl) fun v H hA => ?_
            replace hA := hA.frz
            refine f_setlt (e := [r32, r33, r34]) (fun t => .dat ((eL eD) t)) hA (fun t j z => nomatch z) rfl hm (fun told_35 => ?_)
            change BJ K _ [some (.dat ((eT (eP2 eS eI)) a)), none, none, none, some (.dat ((eL eD) told_35)), none] _ _ _ _ _
            refine fun g σ H D hA hm => x_ret ?_
            refine x_op ?_
            refine (ev_var rfl) _ _ _ _ _ hA fun v H hA => ?_
            refine (ev_lst [eS ("place" : Str), eS ("place" : Str), eS ("let" : Str)] (ea_cons ev_str (ea_cons ev_str (ea_cons ev_str ea_nil)))) _ _ _ _ _ hA fun v H hA => ?_
            refine f_o2m (o2_eqDM (a := ((dL id) told_35)) (b := ((dL PyData.str) ([("place" : Str), ("place" : Str), ("let" : Str)]))) (.dat (bx_l bx_d)) (.lst bx_s .own)) hA hm fun t36 v H hA hm => ?_
            exact hm v H _ (hA.weak1 (.d .nil) fun j z => nomatch z)
theorem ok_law (T : Txt K mg Z) : FnOk P w K mg base (L2.CX P w) 10 Z.f_law Z.d_law ["script"] (Spec K Z.ec 1 pre_law f_law post_law ret_law) := by
  refine fn_ok T.d_law.F sc_law rfl m_law fun cdv A outer s H E hr => ?_
  refine ⟨_, (pss_cons (ps_set (i := 1) sc_law.nd rfl (Or.inl rfl) (pe_callS (ok_law_numbers (K := K) T) (hr.mono (by decide)) (by rfl) T.d_law_numbers.g T.d_law_numbers.F.kp T.d_law_numbers.b (fun σ => passAt (takes_of rfl rfl rfl rfl) σ) (pa_cons (pv 0) pa_nil)))
  (pss_cons (ps_set (i := 2) sc_law.nd rfl (Or.inl rfl) (pe_callS (ok_law_clocks (K := K) T) (hr.mono (by decide)) (by rfl) T.d_law_clocks.g T.d_law_clocks.F.kp T.d_law_clocks.b (fun σ => passAt (takes_of rfl rfl rfl rfl) σ) (pa_cons (pv 1) pa_nil)))
  (pss_cons (ps_set (i := 3) sc_law.nd rfl (Or.inl rfl) (pe_ix (r := rIxL K) ix_list (pe_lst (pa_cons pe_int (pa_cons pe_int (pa_cons pe_int (pa_cons (pe_callS (ok_law_draw (K := K) T) (hr.mono (by decide)) (by rfl) T.d_law_draw.g T.d_law_draw.F.kp T.d_law_draw.b (fun σ => passAt (takes_of rfl rfl rfl rfl) σ) (pa_cons (pv 1) (pa_cons pe_int pa_nil))) pa_nil))))) (pe_callS (ok_law_draw (K := K) T) (hr.mono (by decide)) (by rfl) T.d_law_draw.g T.d_law_draw.F.kp T.d_law_draw.b (fun σ => passAt (takes_of rfl rfl rfl rfl) σ) (pa_cons (pv 1) (pa_cons pe_int pa_nil))) (fun _ _ => rfl)))
  (pss_cons (ps_set (i := 4) sc_law.nd rfl (Or.inl rfl) (pe_callS (ok_law_runs (K := K) T) (hr.mono (by decide)) (by rfl) T.d_law_runs.g T.d_law_runs.F.kp T.d_law_runs.b (fun σ => passAt (takes_of rfl rfl rfl rfl) σ) (pa_cons (pv 1) pa_nil)))
  (pss_cons (ps_set (i := 5) sc_law.nd rfl (Or.inl rfl) (pe_callS (ok_law_out (K := K) T) (hr.mono (by decide)) (by rfl) T.d_law_out.g T.d_law_out.F.kp T.d_law_out.b (fun σ => passAt (takes_of rfl rfl rfl rfl) σ) (pa_cons (pv 2) (pa_cons (pv 3) (pa_cons (pv 4) pa_nil)))))
  (pss_cons (ps_set (i := 6) sc_law.nd rfl (Or.inl rfl) (pe_callS (ok_law_sums (K := K) T) (hr.mono (by decide)) (by rfl) T.d_law_sums.g T.d_law_sums.F.kp T.d_law_sums.b (fun σ => passAt (takes_of rfl rfl rfl rfl) σ) (pa_cons (pv 2) (pa_cons (pv 3) pa_nil))))
  (pss_cons (ps_set (i := 7) sc_law.nd rfl (Or.inl rfl) (pe_lst (pa_cons (pe_tup (pa_cons (pv 2) (pa_cons (pv 3) pa_nil))) pa_nil)))
  (pss_cons (ps_for (passes_of rfl) rfl (pi_range1 (by rfl) T.z_range (pa_cons pe_int pa_nil)) (pg_name (i := 8) sc_law.nd rfl (Or.inl rfl)) (pss_cons (ps_set (i := 9) sc_law.nd rfl (Or.inl rfl) (pe_callS (ok_law_rules (K := K) T) (hr.mono (by decide)) (by rfl) T.d_law_rules.g T.d_law_rules.F.kp T.d_law_rules.b (fun σ => passAt (takes_of rfl rfl rfl rfl) σ) (pa_cons (pv 2) pa_nil)))
  (pss_cons (ps_if (pt_not (pt_val (pe_callS (ok_law_turn (K := K) T) (hr.mono (by decide)) (by rfl) T.d_law_turn.g T.d_law_turn.F.kp T.d_law_turn.b (fun σ => passAt (takes_of rfl rfl rfl rfl) σ) (pa_cons (pv 2) (pa_cons (pv 3) (pa_cons (pv 9) pa_nil)))))) (pss_cons (ps_ret pe_bl)
  pss_nil) pss_nil)
  (pss_cons (ps_set (i := 10) sc_law.nd rfl (Or.inl rfl) (pe_callKS (ok_row_bits (K := K) T) (hr.mono (by decide)) (by rfl) T.d_row_bits.g T.d_row_bits.F.kp T.d_row_bits.b (fun σ => passAt (takes_of rfl rfl rfl rfl) σ) (pa_cons (pe_callS (ok_law_listed (K := K) T) (hr.mono (by decide)) (by rfl) T.d_law_listed.g T.d_law_listed.F.kp T.d_law_listed.b (fun σ => passAt (takes_of rfl rfl rfl rfl) σ) (pa_cons (pv 2) pa_nil)) (pa_cons (pe_callTy (r := rList K) c_list (by rfl) T.z_list (by decide +kernel) (pa_cons (pv 4) pa_nil)) pa_nil)) (pk_cons (pv 3) pk_nil)))
  (pss_cons (ps_if (pw_or (pt_not (pt_val (pe_callS (ok_law_bits_ok (K := K) T) (hr.mono (by decide)) (by rfl) T.d_law_bits_ok.g T.d_law_bits_ok.F.kp T.d_law_bits_ok.b (fun σ => passAt (takes_of rfl rfl rfl rfl) σ) (pa_cons (pv 10) (pa_cons (pe_callB (r := rLen K) c_len (by rfl) T.z_len (by decide +kernel) (pa_cons (pv 4) pa_nil)) pa_nil))))) (pw_or (pt_cmpR (r := rNeD K) (op_neD hr.units) (pv 10) (pv 5) (nomark _)) (pw_or1 (pt_cmpR (r := rNeD K) (op_neD hr.units) (pe_callS (ok_law_out (K := K) T) (hr.mono (by decide)) (by rfl) T.d_law_out.g T.d_law_out.F.kp T.d_law_out.b (fun σ => passAt (takes_of rfl rfl rfl rfl) σ) (pa_cons (pv 2) (pa_cons (pv 3) (pa_cons (pv 4) pa_nil)))) (pv 5) (nomark _))))).pt (pss_cons (ps_ret pe_bl)
  pss_nil) pss_nil)
  (pss_cons (ps_if (pt_cmpR (r := rNeD K) (op_neD hr.units) (pe_callS (ok_law_sums (K := K) T) (hr.mono (by decide)) (by rfl) T.d_law_sums.g T.d_law_sums.F.kp T.d_law_sums.b (fun σ => passAt (takes_of rfl rfl rfl rfl) σ) (pa_cons (pv 2) (pa_cons (pv 3) pa_nil))) (pv 6) (nomark _)) (pss_cons (ps_ret pe_bl)
  pss_nil) pss_nil)
  (pss_cons (ps_if (pt_cmpR op_eq (pe_callB (r := rLen K) c_len (by rfl) T.z_len (by decide +kernel) (pa_cons (pv 9) pa_nil)) pe_int (nomark _)) (pss_cons ps_break
  pss_nil) pss_nil)
  (pss_cons (ps_asg (pe_ix (r := rIxL K) ix_list (pv 9) (pe_callS (ok_law_draw (K := K) T) (hr.mono (by decide)) (by rfl) T.d_law_draw.g T.d_law_draw.F.kp T.d_law_draw.b (fun σ => passAt (takes_of rfl rfl rfl rfl) σ) (pa_cons (pv 1) (pa_cons (pe_callB (r := rLen K) c_len (by rfl) T.z_len (by decide +kernel) (pa_cons (pv 9) pa_nil)) pa_nil))) (fun _ _ => rfl)) (pg_tup rfl (pgs_cons (pg_name (i := 14) sc_law.nd rfl (Or.inl rfl)) (pgs_cons (pg_name (i := 15) sc_law.nd rfl (Or.inl rfl)) pgs_nil))))
  (pss_cons (ps_set (i := 11) sc_law.nd rfl (Or.inl rfl) (pe_callB (r := rLen K) c_len (by rfl) T.z_len (by decide +kernel) (pa_cons (pv 2) pa_nil)))
  (pss_cons (ps_asg (pe_callS (ok_law_behind (K := K) T) (hr.mono (by decide)) (by rfl) T.d_law_behind.g T.d_law_behind.F.kp T.d_law_behind.b (fun σ => passAt (takes_of rfl rfl rfl rfl) σ) (pa_cons (pv 2) (pa_cons (pv 3) (pa_cons (pv 14) (pa_cons (pv 15) pa_nil))))) (pg_tup rfl (pgs_cons (pg_name (i := 2) sc_law.nd rfl (Or.inl rfl)) (pgs_cons (pg_name (i := 3) sc_law.nd rfl (Or.inl rfl)) pgs_nil))))
  (pss_cons (ps_if (pt_cmpR op_ge (pe_callB (r := rLen K) c_len (by rfl) T.z_len (by decide +kernel) (pa_cons (pv 2) pa_nil)) (pv 11) (nomark _)) (pss_cons (ps_ret pe_bl)
  pss_nil) pss_nil)
  (pss_cons (ps_expr (pe_bm PySem.F.plainAttrs_list PySem.F.slot_list_append PySem.F.type_list_append mt_append (pv 7) (pa_cons (pe_tup (pa_cons (pv 2) (pa_cons (pv 3) pa_nil))) pa_nil)))
  pss_nil))))))))))))
  (pss_cons (ps_for (passes_of rfl) rfl (pi_list (pv 7)) (pg_tup rfl (pgs_cons (pg_name (i := 12) sc_law.nd rfl (Or.inl rfl)) (pgs_cons (pg_name (i := 13) sc_law.nd rfl (Or.inl rfl)) pgs_nil))) (pss_cons (ps_if (pt_not (pt_val (pe_callS (ok_law_pair_told (K := K) T) (hr.mono (by decide)) (by rfl) T.d_law_pair_told.g T.d_law_pair_told.F.kp T.d_law_pair_told.b (fun σ => passAt (takes_of rfl rfl rfl rfl) σ) (pa_cons (pe_callKS (ok_normal (K := K) T) (hr.mono (by decide)) (by rfl) T.d_normal.g T.d_normal.F.kp T.d_normal.b (fun σ => passAt (takes_of rfl rfl rfl rfl) σ) (pa_cons (pe_callS (ok_law_listed (K := K) T) (hr.mono (by decide)) (by rfl) T.d_law_listed.g T.d_law_listed.F.kp T.d_law_listed.b (fun σ => passAt (takes_of rfl rfl rfl rfl) σ) (pa_cons (pv 12) pa_nil)) pa_nil) (pk_cons (pv 13) pk_nil)) (pa_cons (pe_tup (pa_cons (pv 2) (pa_cons (pv 3) pa_nil))) pa_nil))))) (pss_cons (ps_ret pe_bl)
  pss_nil) pss_nil)
  pss_nil))
  (pss_cons (ps_if (pw_and (pt_cmpR op_eq (pe_ix (r := rIxT K) ix_tup (pe_ix (r := rIxL K) ix_list (pv 7) pe_int (fun _ _ => rfl)) pe_int (fun _ _ => rfl)) pe_int (nomark _)) (pw_and1 (pt_cmpR (r := rNeD K) (op_neD hr.units) (pe_callSD (dvs := [.int 0]) (ok_normal (K := K) T) (hr.mono (by decide)) (by rfl) T.d_normal.g T.d_normal.F.kp T.bd_normal.choose_spec.2 T.bd_normal.choose_spec.1 (fun σ => passAt (takes_of rfl rfl rfl rfl) σ) (pa_cons (pe_ix (r := rIxT K) ix_tup (pe_ix (r := rIxL K) ix_list (pv 7) pe_int (fun _ _ => rfl)) pe_int (fun _ _ => rfl)) pa_nil)) (pe_tup (pa_cons (pv 2) (pa_cons (pv 3) pa_nil))) (nomark _)))).pt (pss_cons (ps_ret pe_bl)
  pss_nil) pss_nil)
  (pss_cons (ps_ret (pe_callS (ok_law_refusals (K := K) T) (hr.mono (by decide)) (by rfl) T.d_law_refusals.g T.d_law_refusals.F.kp T.d_law_refusals.b (fun σ => passAt (takes_of rfl rfl rfl rfl) σ) (pa_cons (pe_ix (r := rIxT K) ix_tup (pe_ix (r := rIxL K) ix_list (pv 7) pe_int (fun _ _ => rfl)) pe_int (fun _ _ => rfl)) pa_nil)))
  pss_nil))))))))))), ?_⟩
  intro a as _
  change BJ K _ [some (.dat ((eL eI) a)), none, none, none, none, none, none, none, none, none, none, none, none, none, none, none] _ _ _ _ _
  refine fun g σ H D hA hm => x_asg ?_
  refine x_call1 ?_
  refine (ev_var rfl) _ _ _ _ _ hA fun v H hA => ?_
  refine f_call [.d ((eL eI) a)] a (fun r => []) hA rfl rfl True.intro (fun as h => match as, h with | [], _ => rfl) (fun _ => rfl) (fun r as h => match as, h with | [], _ => rfl) (fun r j z => nomatch z) .nil (hm.bindR.imp (fun r1 hm v H hA => ?_) fun _ q => q)
  refine f_setgo hA (fun j z => nomatch z) rfl hm ?_
  change BJ K _ [some (.dat ((eL eI) a)), some (.own none (.lst (List.map eI r1))), none, none, none, none, none, none, none, none, none, none, none, none, none, none] _ _ _ _ _
  refine fun g σ H D hA hm => x_asg ?_
  refine x_call1 ?_
  refine (ev_own rfl) _ _ _ _ _ hA fun v H hA => ?_
  refine f_call [.o 1 none (.lst (List.map eI r1))] r1 (fun r => [.lst (List.map eI r.2)]) hA rfl rfl ⟨rfl, True.intro⟩ (fun as h => match as, h with | [_], _ => rfl) (fun _ => rfl) (fun r as h => match as, h with | [_], _ => rfl) (fun r j z => nomatch z) .nil (hm.bindR.imp (fun r2 hm v H hA => ?_) fun _ q => q)
  replace hA : At K g [some (.dat ((eL eI) a)), some (.own none (.lst (List.map eI r2.2))), none, none, none, none, none, none, none, none, none, none, none, none, none, none] _ _ _ := hA
  refine f_setgo hA (fun j z => nomatch z) rfl hm ?_
  change BJ K _ [some (.dat ((eL eI) a)), some (.own none (.lst (List.map eI r2.2))), some (.dat ((eT (eP2 eS eI)) r2.1)), none, none, none, none, none, none, none, none, none, none, none, none, none] _ _ _ _ _
  refine fun g σ H D hA hm => x_asg ?_
  refine x_op ?_
  refine x_lst ?_
  refine x_cons ?_
  refine ev_int _ _ _ _ _ hA fun v H hA => ?_
  refine x_cons ?_
  refine ev_int _ _ _ _ _ hA fun v H hA => ?_
  refine x_cons ?_
  refine ev_int _ _ _ _ _ hA fun v H hA => ?_
  refine x_cons ?_
  refine x_call2 ?_
  refine (ev_own rfl) _ _ _ _ _ hA fun v H hA => ?_
  refine ev_int _ _ _ _ _ hA fun v H hA => ?_
  refine f_call [.o 1 none (.lst (List.map eI r2.2)), .d (eI (21 : Int))] (r2.2, (21 : Int)) (fun r => [.lst (List.map eI r.2)]) hA rfl rfl ⟨rfl, True.intro⟩ (fun as h => match as, h with | [_], _ => rfl) (fun _ => rfl) (fun r as h => match as, h with | [_], _ => rfl) (fun r j z => nomatch z) .nil (hm.bindR.imp (fun r3 hm v H hA => ?_) fun _ q => q)
  replace hA : At K g [some (.dat ((eL eI) a)), some (.own none (.lst (List.map eI r3.2))), some (.dat ((eT (eP2 eS eI)) r2.1)), none, none, none, none, none, none, none, none, none, none, none, none, none] _ _ _ := hA
  refine x_nil ?_
  refine f_lst (vs := [_, _, _, _]) [eI (0 : Int), eI (0 : Int), eI (3 : Int), eI r3.1] hA rfl (Nat.le_of_ble_eq_true rfl) fun v H hA => ?_
  refine x_call2 ?_
  refine (ev_own rfl) _ _ _ _ _ hA fun v H hA => ?_
  refine ev_int _ _ _ _ _ hA fun v H hA => ?_
  refine f_call [.o 1 none (.lst (List.map eI r3.2)), .d (eI (4 : Int))] (r3.2, (4 : Int)) (fun r => [.lst (List.map eI r.2)]) hA rfl rfl ⟨rfl, True.intro⟩ (fun as h => match as, h with | [_], _ => rfl) (fun _ => rfl) (fun r as h => match as, h with | [_], _ => rfl) (fun r j z => nomatch z) .nil (hm.bindR.imp (fun r4 hm v H hA => ?_) fun _ q => q)
  replace hA : At K g [some (.dat ((eL eI) a)), some (.own none (.lst (List.map eI r4.2))), some (.dat ((eT (eP2 eS eI)) r2.1)), none, none, none, none, none, none, none, none, none, none, none, none, none] _ _ _ := hA
  refine f_o2m (o2_idxL (xs := [(0 : Int), (0 : Int), (3 : Int), r3.1]) (e := eI) .own) hA hm fun t5 v H hA hm => ?_
  refine f_setgo hA (fun j z => nomatch z) rfl hm ?_
  change BJ K _ [some (.dat ((eL eI) a)), some (.own none (.lst (List.map eI r4.2))), some (.dat ((eT (eP2 eS eI)) r2.1)), some (.dat (eI t5)), none, none, none, none, none, none, none, none, none, none, none, none] _ _ _ _ _
  refine fun g σ H D hA hm => x_asg ?_
  refine x_call1 ?_
  refine (ev_own rfl) _ _ _ _ _ hA fun v H hA => ?_
  refine f_call [.o 1 none (.lst (List.map eI r4.2))] r4.2 (fun r => [.lst (List.map eI r.2)]) hA rfl rfl ⟨rfl, True.intro⟩ (fun as h => match as, h with | [_], _ => rfl) (fun _ => rfl) (fun r as h => match as, h with | [_], _ => rfl) (fun r j z => nomatch z) .nil (hm.bindR.imp (fun r6 hm v H hA => ?_) fun _ q => q)
  replace hA : At K g [some (.dat ((eL eI) a)), some (.own none (.lst (List.map eI r6.2))), some (.dat ((eT (eP2 eS eI)) r2.1)), some (.dat (eI t5)), none, none, none, none, none, none, none, none, none, none, none, none] _ _ _ := hA
  refine f_setgo hA (fun j z => nomatch z) rfl hm ?_
  change BJ K _ [some (.dat ((eL eI) a)), some (.own none (.lst (List.map eI r6.2))), some (.dat ((eT (eP2 eS eI)) r2.1)), some (.dat (eI t5)), some (.dat ((eT eI) r6.1)), none, none, none, none, none, none, none, none, none, none, none] _ _ _ _ _
  refine fun g σ H D hA hm => x_asg ?_
  refine x_call3 ?_
  refine (ev_var rfl) _ _ _ _ _ hA fun v H hA => ?_
  refine (ev_var rfl) _ _ _ _ _ hA fun v H hA => ?_
  refine (ev_var rfl) _ _ _ _ _ hA fun v H hA => ?_
  refine f_call [.d ((eT (eP2 eS eI)) r2.1), .d (eI t5), .d ((eT eI) r6.1)] (r2.1, t5, r6.1) (fun r => []) hA rfl rfl True.intro (fun as h => match as, h with | [], _ => rfl) (fun _ => rfl) (fun r as h => match as, h with | [], _ => rfl) (fun r j z => nomatch z) .nil (hm.bindR.imp (fun r7 hm v H hA => ?_) fun _ q => q)
  refine f_setgo hA (fun j z => nomatch z) rfl hm ?_
  change BJ K _ [some (.dat ((eL eI) a)), some (.own none (.lst (List.map eI r6.2))), some (.dat ((eT (eP2 eS eI)) r2.1)), some (.dat (eI t5)), some (.dat ((eT eI) r6.1)), some (.dat ((eT eI) r7)), none, none, none, none, none, none, none, none, none, none] _ _ _ _ _
  refine fun g σ H D hA hm => x_asg ?_
  refine x_call2 ?_
  refine (ev_var rfl) _ _ _ _ _ hA fun v H hA => ?_
  refine (ev_var rfl) _ _ _ _ _ hA fun v H hA => ?_
  refine f_call [.d ((eT (eP2 eS eI)) r2.1), .d (eI t5)] (r2.1, t5) (fun r => []) hA rfl rfl True.intro (fun as h => match as, h with | [], _ => rfl) (fun _ => rfl) (fun r as h => match as, h with | [], _ => rfl) (fun r j z => nomatch z) .nil (hm.bindR.imp (fun r8 hm v H hA => ?_) fun _ q => q)
  refine f_setgo hA (fun j z => nomatch z) rfl hm ?_
  change BJ K _ [some (.dat ((eL eI) a)), some (.own none (.lst (List.map eI r6.2))), some (.dat ((eT (eP2 eS eI)) r2.1)), some (.dat (eI t5)), some (.dat ((eT eI) r6.1)), some (.dat ((eT eI) r7)), some (.dat ((eL eI) r8)), none, none, none, none, none, none, none, none, none] _ _ _ _ _
  refine fun g σ H D hA hm => x_asg ?_
  refine (ev_lst [(eP2 (eT (eP2 eS eI)) eI) (r2.1, t5)] (ea_cons (ev_tup [(eT (eP2 eS eI)) r2.1, eI t5] (ea_cons (ev_var rfl) (ea_cons (ev_var rfl) ea_nil))) ea_nil)) _ _ _ _ _ hA fun v H hA => ?_
  refine f_setlt (e := [(r2.1, t5)]) (fun t => .own none (.lst (List.map (eP2 (eT (eP2 eS eI)) eI) t))) hA (fun t j z => nomatch z) rfl hm (fun way_9 => ?_)
  change BJ K _ [some (.dat ((eL eI) a)), some (.own none (.lst (List.map eI r6.2))), some (.dat ((eT (eP2 eS eI)) r2.1)), some (.dat (eI t5)), some (.dat ((eT eI) r6.1)), some (.dat ((eT eI) r7)), some (.dat ((eL eI) r8)), some (.own none (.lst (List.map (eP2 (eT (eP2 eS eI)) eI) way_9))), none, none, none, none, none, none, none, none] _ _ _ _ _
  refine fun g σ H D hA hm => ?_
  refine x_forR1 ?_
  refine ev_int _ _ _ _ _ hA fun v H hA => ?_
  refine f_rng1 (b := (12 : Int)) hA hm fun hm => f_for (e := eI) (fun (s11 : ((List Int) × (List (Str × Int)) × Int × (List ((List (Str × Int)) × Int)))) => [none, some (.own none (.lst (List.map eI s11.1))), some (.dat ((eT (eP2 eS eI)) s11.2.1)), some (.dat (eI s11.2.2.1)), some (.dat ((eT eI) r6.1)), some (.dat ((eT eI) r7)), some (.dat ((eL eI) r8)), some (.own none (.lst (List.map (eP2 (eT (eP2 eS eI)) eI) s11.2.2.2))), none, none, none, none, none, none, none, none]) (s0 := (r6.2, r2.1, t5, way_9)) (.d (.s (.s (.s (.s (.s (.s (.s (.d (.d (.d (.d (.d (.d (.d (.d .nil)))))))))))))))) hm (hb_of (e := eI) (js := [8]) (ps := fun b12 => [eI b12]) (fun b => tj_name) (hjl (n := 16) (fun s => rfl) (by decide)) (fun s11 b12 => ?_)) (fun s11 => ?_)
  ·
    change BJ K _ [none, some (.own none (.lst (List.map eI s11.1))), some (.dat ((eT (eP2 eS eI)) s11.2.1)), some (.dat (eI s11.2.2.1)), some (.dat ((eT eI) r6.1)), some (.dat ((eT eI) r7)), some (.dat ((eL eI) r8)), some (.own none (.lst (List.map (eP2 (eT (eP2 eS eI)) eI) s11.2.2.2))), some (.dat (eI b12)), none, none, none, none, none, none, none] _ _ _ _ _
    refine fun g σ H D hA hm => x_asg ?_
    refine x_call1 ?_
    refine (ev_var rfl) _ _ _ _ _ hA fun v H hA => ?_
    refine f_call [.d ((eT (eP2 eS eI)) s11.2.1)] s11.2.1 (fun r => []) hA rfl rfl True.intro (fun as h => match as, h with | [], _ => rfl) (fun _ => rfl) (fun r as h => match as, h with | [], _ => rfl) (fun r j z => nomatch z) .nil (hm.bindR.imp (fun r13 hm v H hA => ?_) fun _ q => q)
    refine f_setgo hA (fun j z => nomatch z) rfl hm ?_
    change BJ K _ [none, some (.own none (.lst (List.map eI s11.1))), some (.dat ((eT (eP2 eS eI)) s11.2.1)), some (.dat (eI s11.2.2.1)), some (.dat ((eT eI) r6.1)), some (.dat ((eT eI) r7)), some (.dat ((eL eI) r8)), some (.own none (.lst (List.map (eP2 (eT (eP2 eS eI)) eI) s11.2.2.2))), some (.dat (eI b12)), some (.dat ((eL (eP2 eI eS)) r13)), none, none, none, none, none, none] _ _ _ _ _
    refine fun g σ H D hA hm => x_ifS ?_
    refine x_not ?_
    refine x_B ?_
    refine x_call3 ?_
    refine (ev_var rfl) _ _ _ _ _ hA fun v H hA => ?_
    refine (ev_var rfl) _ _ _ _ _ hA fun v H hA => ?_
    refine (ev_var rfl) _ _ _ _ _ hA fun v H hA => ?_
    refine f_call [.d ((eT (eP2 eS eI)) s11.2.1), .d (eI s11.2.2.1), .d ((eL (eP2 eI eS)) r13)] (s11.2.1, s11.2.2.1, r13) (fun r => []) hA rfl rfl True.intro (fun as h => match as, h with | [], _ => rfl) (fun _ => rfl) (fun r as h => match as, h with | [], _ => rfl) (fun r j z => nomatch z) .nil (hm.bindR.imp (fun r14 hm v H hA => ?_) fun _ q => q)
    refine f_tst (P := fun c H1 => _) hA fun hA => ?_
    refine f_ifS hm (fun hm => ?_) (fun hm => ?_)
    ·
      refine bj_go hA hm ?_
      change BJ K _ [none, some (.own none (.lst (List.map eI s11.1))), some (.dat ((eT (eP2 eS eI)) s11.2.1)), some (.dat (eI s11.2.2.1)), some (.dat ((eT eI) r6.1)), some (.dat ((eT eI) r7)), some (.dat ((eL eI) r8)), some (.own none (.lst (List.map (eP2 (eT (eP2 eS eI)) eI) s11.2.2.2))), some (.dat (eI b12)), some (.dat ((eL (eP2 eI eS)) r13)), none, none, none, none, none, none] _ _ _ _ _
      refine bj_assoc ?_
      refine fun g σ H D hA hm => x_ret ?_
      refine ev_bl _ _ _ _ _ hA fun v H hA => ?_
      exact hm v H _ (hA.weak1 (.d .nil) fun j z => nomatch z)
    ·
      refine bj_go hA hm ?_
      change BJ K _ [none, some (.own none (.lst (List.map eI s11.1))), some (.dat ((eT (eP2 eS eI)) s11.2.1)), some (.dat (eI s11.2.2.1)), some (.dat ((eT eI) r6.1)), some (.dat ((eT eI) r7)), some (.dat ((eL eI) r8)), some (.own none (.lst (List.map (eP2 (eT (eP2 eS eI)) eI) s11.2.2.2))), some (.dat (eI b12)), some (.dat ((eL (eP2 eI eS)) r13)), none, none, none, none, none, none] _ _ _ _ _
      refine bj_pass ?_
      refine fun g σ H D hA hm => x_asg ?_
      refine x_callK2 ?_
      refine x_call1 ?_
      refine (ev_var rfl) _ _ _ _ _ hA fun v H hA => ?_
      refine f_call [.d ((eT (eP2 eS eI)) s11.2.1)] s11.2.1 (fun r => []) hA rfl rfl True.intro (fun as h => match as, h with | [], _ => rfl) (fun _ => rfl) (fun r as h => match as, h with | [], _ => rfl) (fun r j z => nomatch z) .nil (hm.bindR.imp (fun r15 hm v H hA => ?_) fun _ q => q)
      replace hA := hA.box (Bx.hd (x := r15) (bx_l (bx_l bx_d)))
      refine (ev_cb1 (ev_var rfl) (o1_list .t)) _ _ _ _ _ hA fun v H hA => ?_
      replace hA := hA.frz
      replace hA := hA.box (Bx.hd (x := r6.1) (bx_l bx_i))
      refine (ev_var rfl) _ _ _ _ _ hA fun v H hA => ?_
      replace hA := hA.box (Bx.hd (x := s11.2.2.1) bx_i)
      refine ⟨rfl, rfl, ?_⟩
      refine f_call [.d (eD ((dL (dL id)) r15)), .d (eD ((dL PyData.int) r6.1)), .d (eD (PyData.int s11.2.2.1))] (((dL (dL id)) r15), ((dL PyData.int) r6.1), (PyData.int s11.2.2.1)) (fun r => []) hA rfl rfl True.intro (fun as h => match as, h with | [], _ => rfl) (fun _ => rfl) (fun r as h => match as, h with | [], _ => rfl) (fun r j z => nomatch z) .nil (hm.bindR.imp (fun r16 hm v H hA => ?_) fun _ q => q)
      refine f_setgo hA (fun j z => nomatch z) rfl hm ?_
      change BJ K _ [none, some (.own none (.lst (List.map eI s11.1))), some (.dat ((eT (eP2 eS eI)) s11.2.1)), some (.dat (eI s11.2.2.1)), some (.dat ((eT eI) r6.1)), some (.dat ((eT eI) r7)), some (.dat ((eL eI) r8)), some (.own none (.lst (List.map (eP2 (eT (eP2 eS eI)) eI) s11.2.2.2))), some (.dat (eI b12)), some (.dat ((eL (eP2 eI eS)) r13)), some (.dat ((eT eI) r16)), none, none, none, none, none] _ _ _ _ _
      refine fun g σ H D hA hm => x_ifS ?_
      refine f_joinT (fun (s : Bool) => [none, some (.own none (.lst (List.map eI s11.1))), some (.dat ((eT (eP2 eS eI)) s11.2.1)), some (.dat (eI s11.2.2.1)), some (.dat ((eT eI) r6.1)), some (.dat ((eT eI) r7)), some (.dat ((eL eI) r8)), some (.own none (.lst (List.map (eP2 (eT (eP2 eS eI)) eI) s11.2.2.2))), some (.dat (eI b12)), some (.dat ((eL (eP2 eI eS)) r13)), some (.dat ((eT eI) r16)), none, none, none, none, none]) (fun s => s) hA hm (fun hm => ?_) (fun j17 H hA hm => ?_)
      ·
        refine x_orT ?_
        refine x_not ?_
        refine x_B ?_
        refine x_call2 ?_
        refine (ev_var rfl) _ _ _ _ _ hA fun v H hA => ?_
        refine (ev_cb1 (ev_var rfl) (o1_lenT r6.1 eI .t)) _ _ _ _ _ hA fun v H hA => ?_
        refine f_call [.d ((eT eI) r16), .d (eI ((r6.1).length : Int))] (r16, ((r6.1).length : Int)) (fun r => []) hA rfl rfl True.intro (fun as h => match as, h with | [], _ => rfl) (fun _ => rfl) (fun r as h => match as, h with | [], _ => rfl) (fun r j z => nomatch z) .nil (hm.bindR.imp (fun r18 hm v H hA => ?_) fun _ q => q)
        refine f_tst (P := fun c H1 => _) hA fun hA => ?_
        refine f_pick hm (fun hm => ?_) (fun hm => ?_)
        ·
          exact hm H hA
        ·
          refine x_orT ?_
          refine (evb_test (ev_op (ev_var rfl) (ev_var rfl) (o2_neD (x := (r16 : (List Int))) (y := (r7 : (List Int))) (.dat (bx_t bx_i)) (.dat (bx_t bx_i)) (eq_t eq_i)))) _ _ _ _ _ hA fun H hA => ?_
          refine f_pick hm (fun hm => ?_) (fun hm => ?_)
          ·
            exact hm H hA
          ·
            refine x_test ?_
            refine x_op ?_
            refine x_call3 ?_
            refine (ev_var rfl) _ _ _ _ _ hA fun v H hA => ?_
            refine (ev_var rfl) _ _ _ _ _ hA fun v H hA => ?_
            refine (ev_var rfl) _ _ _ _ _ hA fun v H hA => ?_
            refine f_call [.d ((eT (eP2 eS eI)) s11.2.1), .d (eI s11.2.2.1), .d ((eT eI) r6.1)] (s11.2.1, s11.2.2.1, r6.1) (fun r => []) hA rfl rfl True.intro (fun as h => match as, h with | [], _ => rfl) (fun _ => rfl) (fun r as h => match as, h with | [], _ => rfl) (fun r j z => nomatch z) .nil (hm.bindR.imp (fun r19 hm v H hA => ?_) fun _ q => q)
            refine (ev_var rfl) _ _ _ _ _ hA fun v H hA => ?_
            refine (o2_neD (x := (r19 : (List Int))) (y := (r7 : (List Int))) (.dat (bx_t bx_i)) (.dat (bx_t bx_i)) (eq_t eq_i)) _ _ _ _ _ _ _ hA fun v H hA => ?_
            refine f_tst (P := fun c H1 => _) hA fun hA => ?_
            exact hm H hA
      ·
        replace hA : At K g [none, some (.own none (.lst (List.map eI s11.1))), some (.dat ((eT (eP2 eS eI)) s11.2.1)), some (.dat (eI s11.2.2.1)), some (.dat ((eT eI) r6.1)), some (.dat ((eT eI) r7)), some (.dat ((eL eI) r8)), some (.own none (.lst (List.map (eP2 (eT (eP2 eS eI)) eI) s11.2.2.2))), some (.dat (eI b12)), some (.dat ((eL (eP2 eI eS)) r13)), some (.dat ((eT eI) r16)), none, none, none, none, none] _ _ _ := hA
        refine f_ifS hm (fun hm => ?_) (fun hm => ?_)
        ·
          refine bj_go hA hm ?_
          change BJ K _ [none, some (.own none (.lst (List.map eI s11.1))), some (.dat ((eT (eP2 eS eI)) s11.2.1)), some (.dat (eI s11.2.2.1)), some (.dat ((eT eI) r6.1)), some (.dat ((eT eI) r7)), some (.dat ((eL eI) r8)), some (.own none (.lst (List.map (eP2 (eT (eP2 eS eI)) eI) s11.2.2.2))), some (.dat (eI b12)), some (.dat ((eL (eP2 eI eS)) r13)), some (.dat ((eT eI) r16)), none, none, none, none, none] _ _ _ _ _
          refine bj_assoc ?_
          refine fun g σ H D hA hm => x_ret ?_
          refine ev_bl _ _ _ _ _ hA fun v H hA => ?_
          exact hm v H _ (hA.weak1 (.d .nil) fun j z => nomatch z)
        ·
          refine bj_go hA hm ?_
          change BJ K _ [none, some (.own none (.lst (List.map eI s11.1))), some (.dat ((eT (eP2 eS eI)) s11.2.1)), some (.dat (eI s11.2.2.1)), some (.dat ((eT eI) r6.1)), some (.dat ((eT eI) r7)), some (.dat ((eL eI) r8)), some (.own none (.lst (List.map (eP2 (eT (eP2 eS eI)) eI) s11.2.2.2))), some (.dat (eI b12)), some (.dat ((eL (eP2 eI eS)) r13)), some (.dat ((eT eI) r16)), none, none, none, none, none] _ _ _ _ _
          refine bj_pass ?_
          refine fun g σ H D hA hm => x_ifS ?_
          refine x_test ?_
          refine x_op ?_
          refine x_call2 ?_
          refine (ev_var rfl) _ _ _ _ _ hA fun v H hA => ?_
          refine (ev_var rfl) _ _ _ _ _ hA fun v H hA => ?_
          refine f_call [.d ((eT (eP2 eS eI)) s11.2.1), .d (eI s11.2.2.1)] (s11.2.1, s11.2.2.1) (fun r => []) hA rfl rfl True.intro (fun as h => match as, h with | [], _ => rfl) (fun _ => rfl) (fun r as h => match as, h with | [], _ => rfl) (fun r j z => nomatch z) .nil (hm.bindR.imp (fun r20 hm v H hA => ?_) fun _ q => q)
          refine (ev_var rfl) _ _ _ _ _ hA fun v H hA => ?_
          refine (o2_neD (x := (r20 : (List Int))) (y := (r8 : (List Int))) (.dat (bx_l bx_i)) (.dat (bx_l bx_i)) (eq_l eq_i)) _ _ _ _ _ _ _ hA fun v H hA => ?_
          refine f_tst (P := fun c H1 => _) hA fun hA => ?_
          refine f_ifS hm (fun hm => ?_) (fun hm => ?_)
          ·
            refine bj_go hA hm ?_
            change BJ K _ [none, some (.own none (.lst (List.map eI s11.1))), some (.dat ((eT (eP2 eS eI)) s11.2.1)), some (.dat (eI s11.2.2.1)), some (.dat ((eT eI) r6.1)), some (.dat ((eT eI) r7)), some (.dat ((eL eI) r8)), some (.own none (.lst (List.map (eP2 (eT (eP2 eS eI)) eI) s11.2.2.2))), some (.dat (eI b12)), some (.dat ((eL (eP2 eI eS)) r13)), some (.dat ((eT eI) r16)), none, none, none, none, none] _ _ _ _ _
            refine bj_assoc ?_
            refine fun g σ H D hA hm => x_ret ?_
            refine ev_bl _ _ _ _ _ hA fun v H hA => ?_
            exact hm v H _ (hA.weak1 (.d .nil) fun j z => nomatch z)
          ·
            refine bj_go hA hm ?_
            change BJ K _ [none, some (.own none (.lst (List.map eI s11.1))), some (.dat ((eT (eP2 eS eI)) s11.2.1)), some (.dat (eI s11.2.2.1)), some (.dat ((eT eI) r6.1)), some (.dat ((eT eI) r7)), some (.dat ((eL eI) r8)), some (.own none (.lst (List.map (eP2 (eT (eP2 eS eI)) eI) s11.2.2.2))), some (.dat (eI b12)), some (.dat ((eL (eP2 eI eS)) r13)), some (.dat ((eT eI) r16)), none, none, none, none, none] _ _ _ _ _
            refine bj_pass ?_
            refine bj_ifL (evb_test (ev_op (ev_cb1 (ev_var rfl) (o1_lenT r13 (eP2 eI eS) (.l .dat))) ev_int o2_eqI)) ?_ ?_
            ·
              refine bj_assoc ?_
              exact bj_bk (a := (s11.1, s11.2.1, s11.2.2.1, s11.2.2.2)) (.d (.s (.s (.s (.s (.s (.s (.s (.d (.d (.d (.d (.d (.d (.d (.d .nil))))))))))))))))
            ·
              refine bj_pass ?_
              refine fun g σ H D hA hm => x_asg ?_
              refine x_op ?_
              refine (ev_var rfl) _ _ _ _ _ hA fun v H hA => ?_
              refine x_call2 ?_
              refine (ev_own rfl) _ _ _ _ _ hA fun v H hA => ?_
              refine (ev_cb1 (ev_var rfl) (o1_lenT r13 (eP2 eI eS) (.l .dat))) _ _ _ _ _ hA fun v H hA => ?_
              refine f_call [.o 1 none (.lst (List.map eI s11.1)), .d (eI ((r13).length : Int))] (s11.1, ((r13).length : Int)) (fun r => [.lst (List.map eI r.2)]) hA rfl rfl ⟨rfl, True.intro⟩ (fun as h => match as, h with | [_], _ => rfl) (fun _ => rfl) (fun r as h => match as, h with | [_], _ => rfl) (fun r j z => nomatch z) .nil (hm.bindR.imp (fun r21 hm v H hA => ?_) fun _ q => q)
              replace hA : At K g [none, some (.own none (.lst (List.map eI r21.2))), some (.dat ((eT (eP2 eS eI)) s11.2.1)), some (.dat (eI s11.2.2.1)), some (.dat ((eT eI) r6.1)), some (.dat ((eT eI) r7)), some (.dat ((eL eI) r8)), some (.own none (.lst (List.map (eP2 (eT (eP2 eS eI)) eI) s11.2.2.2))), some (.dat (eI b12)), some (.dat ((eL (eP2 eI eS)) r13)), some (.dat ((eT eI) r16)), none, none, none, none, none] _ _ _ := hA
              refine f_o2m (o2_idxL (xs := r13) (e := (eP2 eI eS)) .dat) hA hm fun t22 v H hA hm => ?_
              refine (tj_tup (tjs_cons tj_name (tjs_cons tj_name tjs_nil)) rfl).2 _ _ _ _ _ _ _ (hjl (sT := Unit) (Gl := fun _ => [none, some (.own none (.lst (List.map eI r21.2))), some (.dat ((eT (eP2 eS eI)) s11.2.1)), some (.dat (eI s11.2.2.1)), some (.dat ((eT eI) r6.1)), some (.dat ((eT eI) r7)), some (.dat ((eL eI) r8)), some (.own none (.lst (List.map (eP2 (eT (eP2 eS eI)) eI) s11.2.2.2))), some (.dat (eI b12)), some (.dat ((eL (eP2 eI eS)) r13)), some (.dat ((eT eI) r16)), none, none, none, none, none]) (js := [14, 15]) (n := 16) (fun _ => rfl) (by decide) ()) (by intro y hy; cases hy) hA fun vs H _ hA => ?_
              replace hA : At K g [none, some (.own none (.lst (List.map eI r21.2))), some (.dat ((eT (eP2 eS eI)) s11.2.1)), some (.dat (eI s11.2.2.1)), some (.dat ((eT eI) r6.1)), some (.dat ((eT eI) r7)), some (.dat ((eL eI) r8)), some (.own none (.lst (List.map (eP2 (eT (eP2 eS eI)) eI) s11.2.2.2))), some (.dat (eI b12)), some (.dat ((eL (eP2 eI eS)) r13)), some (.dat ((eT eI) r16)), none, none, none, some (.dat (eI t22.1)), some (.dat (eS t22.2))] _ _ _ := hA
              refine bj_go hA hm ?_
              refine fun g σ H D hA hm => x_asg ?_
              refine (ev_cb1 (ev_var rfl) (o1_lenT s11.2.1 (eP2 eS eI) .t)) _ _ _ _ _ hA fun v H hA => ?_
              refine f_setlt (e := ((s11.2.1).length : Int)) (fun t => .dat (eI t)) hA (fun t j z => nomatch z) rfl hm (fun many_23 => ?_)
              change BJ K _ [none, some (.own none (.lst (List.map eI r21.2))), some (.dat ((eT (eP2 eS eI)) s11.2.1)), some (.dat (eI s11.2.2.1)), some (.dat ((eT eI) r6.1)), some (.dat ((eT eI) r7)), some (.dat ((eL eI) r8)), some (.own none (.lst (List.map (eP2 (eT (eP2 eS eI)) eI) s11.2.2.2))), some (.dat (eI b12)), some (.dat ((eL (eP2 eI eS)) r13)), some (.dat ((eT eI) r16)), some (.dat (eI many_23)), none, none, some (.dat (eI t22.1)), some (.dat (eS t22.2))] _ _ _ _ _
              refine fun g σ H D hA hm => x_asg ?_
              refine x_call4 ?_
              refine (ev_var rfl) _ _ _ _ _ hA fun v H hA => ?_
              refine (ev_var rfl) _ _ _ _ _ hA fun v H hA => ?_
              refine (ev_var rfl) _ _ _ _ _ hA fun v H hA => ?_
              refine (ev_var rfl) _ _ _ _ _ hA fun v H hA => ?_
              refine f_call [.d ((eT (eP2 eS eI)) s11.2.1), .d (eI s11.2.2.1), .d (eI t22.1), .d (eS t22.2)] (s11.2.1, s11.2.2.1, t22.1, t22.2) (fun r => []) hA rfl rfl True.intro (fun as h => match as, h with | [], _ => rfl) (fun _ => rfl) (fun r as h => match as, h with | [], _ => rfl) (fun r j z => nomatch z) .nil (hm.bindR.imp (fun r24 hm v H hA => ?_) fun _ q => q)
              refine (tj_tup (tjs_cons tj_name (tjs_cons tj_name tjs_nil)) rfl).2 _ _ _ _ _ _ _ (hjl (sT := Unit) (Gl := fun _ => [none, some (.own none (.lst (List.map eI r21.2))), some (.dat ((eT (eP2 eS eI)) s11.2.1)), some (.dat (eI s11.2.2.1)), some (.dat ((eT eI) r6.1)), some (.dat ((eT eI) r7)), some (.dat ((eL eI) r8)), some (.own none (.lst (List.map (eP2 (eT (eP2 eS eI)) eI) s11.2.2.2))), some (.dat (eI b12)), some (.dat ((eL (eP2 eI eS)) r13)), some (.dat ((eT eI) r16)), some (.dat (eI many_23)), none, none, some (.dat (eI t22.1)), some (.dat (eS t22.2))]) (js := [2, 3]) (n := 16) (fun _ => rfl) (by decide) ()) (by intro y hy; cases hy) hA fun vs H _ hA => ?_
              replace hA : At K g [none, some (.own none (.lst (List.map eI r21.2))), some (.dat ((eT (eP2 eS eI)) r24.1)), some (.dat (eI r24.2)), some (.dat ((eT eI) r6.1)), some (.dat ((eT eI) r7)), some (.dat ((eL eI) r8)), some (.own none (.lst (List.map (eP2 (eT (eP2 eS eI)) eI) s11.2.2.2))), some (.dat (eI b12)), some (.dat ((eL (eP2 eI eS)) r13)), some (.dat ((eT eI) r16)), some (.dat (eI many_23)), none, none, some (.dat (eI t22.1)), some (.dat (eS t22.2))] _ _ _ := hA
              refine bj_go hA hm ?_
              refine bj_ifL (evb_test (ev_op (ev_cb1 (ev_var rfl) (o1_lenT r24.1 (eP2 eS eI) .t)) (ev_var rfl) o2_c0)) ?_ ?_
              ·
                refine bj_assoc ?_
                refine fun g σ H D hA hm => x_ret ?_
                refine ev_bl _ _ _ _ _ hA fun v H hA => ?_
                exact hm v H _ (hA.weak1 (.d .nil) fun j z => nomatch z)
              ·
                refine bj_pass ?_
                refine fun g σ H D hA hm => x_drop ?_
                refine x_app rfl hA fun x H hA => ?_
                refine (ev_tup [(eT (eP2 eS eI)) r24.1, eI r24.2] (ea_cons (ev_var rfl) (ea_cons (ev_var rfl) ea_nil))) _ _ _ _ _ hA fun v H hA => ?_
                refine f_appm (xs := s11.2.2.2) (e := (eP2 (eT (eP2 eS eI)) eI)) rfl hA hm fun ys25 H hA hm => ?_
                refine bj_go hA hm ?_
                change BJ K _ [none, some (.own none (.lst (List.map eI r21.2))), some (.dat ((eT (eP2 eS eI)) r24.1)), some (.dat (eI r24.2)), some (.dat ((eT eI) r6.1)), some (.dat ((eT eI) r7)), some (.dat ((eL eI) r8)), some (.own none (.lst (List.map (eP2 (eT (eP2 eS eI)) eI) ys25))), some (.dat (eI b12)), some (.dat ((eL (eP2 eI eS)) r13)), some (.dat ((eT eI) r16)), some (.dat (eI many_23)), none, none, some (.dat (eI t22.1)), some (.dat (eS t22.2))] _ _ _ _ _
                exact bj_nx (a := (r21.2, r24.1, r24.2, ys25)) (.d (.s (.s (.s (.s (.s (.s (.s (.d (.d (.d (.d (.d (.d (.d (.d .nil))))))))))))))))
  ·
    change BJ K _ [none, some (.own none (.lst (List.map eI s11.1))), some (.dat ((eT (eP2 eS eI)) s11.2.1)), some (.dat (eI s11.2.2.1)), some (.dat ((eT eI) r6.1)), some (.dat ((eT eI) r7)), some (.dat ((eL eI) r8)), some (.own none (.lst (List.map (eP2 (eT (eP2 eS eI)) eI) s11.2.2.2))), none, none, none, none, none, none, none, none] _ _ _ _ _
    refine bj_frz (i := 7) rfl ?_
    change BJ K _ [none, some (.own none (.lst (List.map eI s11.1))), some (.dat ((eT (eP2 eS eI)) s11.2.1)), some (.dat (eI s11.2.2.1)), some (.dat ((eT eI) r6.1)), some (.dat ((eT eI) r7)), some (.dat ((eL eI) r8)), some (.dat ((eL (eP2 (eT (eP2 eS eI)) eI)) s11.2.2.2)), none, none, none, none, none, none, none, none] _ _ _ _ _
    refine fun g σ H D hA hm => ?_
    refine x_forL ?_
    refine (ev_var rfl) _ _ _ _ _ hA fun v H hA => ?_
    refine wk_list (xs := s11.2.2.2) (e := (eP2 (eT (eP2 eS eI)) eI)) hA (f_for (e := (eP2 (eT (eP2 eS eI)) eI)) (fun (s26 : Unit) => [none, none, some (.dat ((eT (eP2 eS eI)) s11.2.1)), some (.dat (eI s11.2.2.1)), none, none, none, some (.dat ((eL (eP2 (eT (eP2 eS eI)) eI)) s11.2.2.2)), none, none, none, none, none, none, none, none]) (s0 := ()) (.d (.d (.s (.s (.d (.d (.d (.s (.d (.d (.d (.d (.d (.d (.d (.d .nil)))))))))))))))) hm (hb_of (e := (eP2 (eT (eP2 eS eI)) eI)) (js := [12, 13]) (ps := fun b27 => [(eT (eP2 eS eI)) b27.1, eI b27.2]) (fun b => (tj_tup (tjs_cons tj_name (tjs_cons tj_name tjs_nil)) rfl)) (hjl (n := 16) (fun s => rfl) (by decide)) (fun s26 b27 => ?_)) (fun s26 => ?_))
    ·
      change BJ K _ [none, none, some (.dat ((eT (eP2 eS eI)) s11.2.1)), some (.dat (eI s11.2.2.1)), none, none, none, some (.dat ((eL (eP2 (eT (eP2 eS eI)) eI)) s11.2.2.2)), none, none, none, none, some (.dat ((eT (eP2 eS eI)) b27.1)), some (.dat (eI b27.2)), none, none] _ _ _ _ _
      refine fun g σ H D hA hm => x_ifS ?_
      refine x_not ?_
      refine x_B ?_
      refine x_call2 ?_
      refine x_callK1 ?_
      refine x_call1 ?_
      refine (ev_var rfl) _ _ _ _ _ hA fun v H hA => ?_
      refine f_call [.d ((eT (eP2 eS eI)) b27.1)] b27.1 (fun r => []) hA rfl rfl True.intro (fun as h => match as, h with | [], _ => rfl) (fun _ => rfl) (fun r as h => match as, h with | [], _ => rfl) (fun r j z => nomatch z) .nil (hm.bindR.imp (fun r28 hm v H hA => ?_) fun _ q => q)
      replace hA := hA.box (Bx.hd (x := r28) (bx_l (bx_l bx_d)))
      refine (ev_var rfl) _ _ _ _ _ hA fun v H hA => ?_
      replace hA := hA.box (Bx.hd (x := b27.2) bx_i)
      refine ⟨rfl, rfl, ?_⟩
      refine f_call [.d (eD ((dL (dL id)) r28)), .d (eD (PyData.int b27.2))] (((dL (dL id)) r28), (PyData.int b27.2)) (fun r => []) hA rfl rfl True.intro (fun as h => match as, h with | [], _ => rfl) (fun _ => rfl) (fun r as h => match as, h with | [], _ => rfl) (fun r j z => nomatch z) .nil (hm.bindR.imp (fun r29 hm v H hA => ?_) fun _ q => q)
      refine (ev_tup [(eT (eP2 eS eI)) s11.2.1, eI s11.2.2.1] (ea_cons (ev_var rfl) (ea_cons (ev_var rfl) ea_nil))) _ _ _ _ _ hA fun v H hA => ?_
      refine f_call [.d ((eP2 (eT (eP2 eS eI)) eI) r29), .d ((eP2 (eT (eP2 eS eI)) eI) (s11.2.1, s11.2.2.1))] (r29, (s11.2.1, s11.2.2.1)) (fun r => []) hA rfl rfl True.intro (fun as h => match as, h with | [], _ => rfl) (fun _ => rfl) (fun r as h => match as, h with | [], _ => rfl) (fun r j z => nomatch z) .nil (hm.bindR.imp (fun r30 hm v H hA => ?_) fun _ q => q)
      refine f_tst (P := fun c H1 => _) hA fun hA => ?_
      refine f_ifS hm (fun hm => ?_) (fun hm => ?_)
      ·
        refine bj_go hA hm ?_
        change BJ K _ [none, none, some (.dat ((eT (eP2 eS eI)) s11.2.1)), some (.dat (eI s11.2.2.1)), none, none, none, some (.dat ((eL (eP2 (eT (eP2 eS eI)) eI)) s11.2.2.2)), none, none, none, none, some (.dat ((eT (eP2 eS eI)) b27.1)), some (.dat (eI b27.2)), none, none] _ _ _ _ _
        refine bj_assoc ?_
        refine fun g σ H D hA hm => x_ret ?_
        refine ev_bl _ _ _ _ _ hA fun v H hA => ?_
        exact hm v H _ (hA.weak1 (.d .nil) fun j z => nomatch z)
      ·
        refine bj_go hA hm ?_
        change BJ K _ [none, none, some (.dat ((eT (eP2 eS eI)) s11.2.1)), some (.dat (eI s11.2.2.1)), none, none, none, some (.dat ((eL (eP2 (eT (eP2 eS eI)) eI)) s11.2.2.2)), none, none, none, none, some (.dat ((eT (eP2 eS eI)) b27.1)), some (.dat (eI b27.2)), none, none] _ _ _ _ _
        refine bj_pass ?_
        exact bj_nx (a := ()) (.d (.d (.s (.s (.d (.d (.d (.s (.d (.d (.d (.d (.d (.d (.d (.d .nil))))))))))))))))
    ·
      change BJ K _ [none, none, some (.dat ((eT (eP2 eS eI)) s11.2.1)), some (.dat (eI s11.2.2.1)), none, none, none, some (.dat ((eL (eP2 (eT (eP2 eS eI)) eI)) s11.2.2.2)), none, none, none, none, none, none, none, none] _ _ _ _ _
      refine fun g σ H D hA hm => x_ifS ?_
      refine f_joinT (fun (s : Bool) => [none, none, some (.dat ((eT (eP2 eS eI)) s11.2.1)), some (.dat (eI s11.2.2.1)), none, none, none, some (.dat ((eL (eP2 (eT (eP2 eS eI)) eI)) s11.2.2.2)), none, none, none, none, none, none, none, none]) (fun s => s) hA hm (fun hm => ?_) (fun j31 H hA hm => ?_)
      ·
        refine x_andT ?_
        refine x_test ?_
        refine x_op ?_
        refine x_op ?_
        refine x_op ?_
        refine (ev_var rfl) _ _ _ _ _ hA fun v H hA => ?_
        refine ev_int _ _ _ _ _ hA fun v H hA => ?_
        refine f_o2m (o2_idxL (xs := s11.2.2.2) (e := (eP2 (eT (eP2 eS eI)) eI)) .dat) hA hm fun t32 v H hA hm => ?_
        refine ev_int _ _ _ _ _ hA fun v H hA => ?_
        refine (o2_ixK (p := eI t32.2) rfl) _ _ _ _ _ _ _ hA fun v H hA => ?_
        refine ev_int _ _ _ _ _ hA fun v H hA => ?_
        refine o2_eqI _ _ _ _ _ _ _ hA fun v H hA => ?_
        refine f_tst (P := fun c H1 => _) hA fun hA => ?_
        refine f_pick hm (fun hm => ?_) (fun hm => ?_)
        ·
          refine x_test ?_
          refine x_op ?_
          refine x_callD1 ?_
          refine x_op ?_
          refine x_op ?_
          refine (ev_var rfl) _ _ _ _ _ hA fun v H hA => ?_
          refine ev_int _ _ _ _ _ hA fun v H hA => ?_
          refine f_o2m (o2_idxL (xs := s11.2.2.2) (e := (eP2 (eT (eP2 eS eI)) eI)) .dat) hA hm fun t33 v H hA hm => ?_
          refine ev_int _ _ _ _ _ hA fun v H hA => ?_
          refine (o2_ixK (p := (eT (eP2 eS eI)) t33.1) rfl) _ _ _ _ _ _ _ hA fun v H hA => ?_
          replace hA := hA.box (Bx.hd (x := t33.1) (bx_t (bx_p2 bx_s bx_i)))
          replace hA := hA.pushI 0
          replace hA := hA.box (Bx.hd (x := (0 : Int)) bx_i)
          refine f_call [.d (eD ((dT (dP2 PyData.str PyData.int)) t33.1)), .d (eD (PyData.int (0 : Int)))] (((dT (dP2 PyData.str PyData.int)) t33.1), (PyData.int (0 : Int))) (fun r => []) hA rfl rfl True.intro (fun as h => match as, h with | [], _ => rfl) (fun _ => rfl) (fun r as h => match as, h with | [], _ => rfl) (fun r j z => nomatch z) .nil (hm.bindR.imp (fun r34 hm v H hA => ?_) fun _ q => q)
          refine (ev_tup [(eT (eP2 eS eI)) s11.2.1, eI s11.2.2.1] (ea_cons (ev_var rfl) (ea_cons (ev_var rfl) ea_nil))) _ _ _ _ _ hA fun v H hA => ?_
          refine f_o2m (o2_neDM (a := ((dP2 (dT (dP2 PyData.str PyData.int)) PyData.int) r34)) (b := ((dP2 (dT (dP2 PyData.str PyData.int)) PyData.int) (s11.2.1, s11.2.2.1))) (.dat (bx_p2 (bx_t (bx_p2 bx_s bx_i)) bx_i)) (.dat (bx_p2 (bx_t (bx_p2 bx_s bx_i)) bx_i))) hA hm fun t35 v H hA hm => ?_
          refine f_tst (P := fun c H1 => _) hA fun hA => ?_
          exact hm H hA
        ·
          exact hm H hA
      ·
        replace hA : At K g [none, none, some (.dat ((eT (eP2 eS eI)) s11.2.1)), some (.dat (eI s11.2.2.1)), none, none, none, some (.dat ((eL (eP2 (eT (eP2 eS eI)) eI)) s11.2.2.2)), none, none, none, none, none, none, none, none] _ _ _ := hA
        refine f_ifS hm (fun hm => ?_) (fun hm => ?_)
        ·
          refine bj_go hA hm ?_
          change BJ K _ [none, none, some (.dat ((eT (eP2 eS eI)) s11.2.1)), some (.dat (eI s11.2.2.1)), none, none, none, some (.dat ((eL (eP2 (eT (eP2 eS eI)) eI)) s11.2.2.2)), none, none, none, none, none, none, none, none] _ _ _ _ _
          refine bj_assoc ?_
          refine fun g σ H D hA hm => x_ret ?_
          refine ev_bl _ _ _ _ _ hA fun v H hA => ?_
          exact hm v H _ (hA.weak1 (.d .nil) fun j z => nomatch z)
        ·
          refine bj_go hA hm ?_
          change BJ K _ [none, none, some (.dat ((eT (eP2 eS eI)) s11.2.1)), some (.dat (eI s11.2.2.1)), none, none, none, some (.dat ((eL (eP2 (eT (eP2 eS eI)) eI)) s11.2.2.2)), none, none, none, none, none, none, none, none] _ _ _ _ _
          refine bj_pass ?_
          refine fun g σ H D hA hm => x_ret ?_
          refine x_call1 ?_
          refine x_op ?_
          refine x_op ?_
          refine (ev_var rfl) _ _ _ _ _ hA fun v H hA => ?_
          refine ev_int _ _ _ _ _ hA fun v H hA => ?_
          refine f_o2m (o2_idxL (xs := s11.2.2.2) (e := (eP2 (eT (eP2 eS eI)) eI)) .dat) hA hm fun t36 v H hA hm => ?_
          refine ev_int _ _ _ _ _ hA fun v H hA => ?_
          refine (o2_ixK (p := (eT (eP2 eS eI)) t36.1) rfl) _ _ _ _ _ _ _ hA fun v H hA => ?_
          refine f_call [.d ((eT (eP2 eS eI)) t36.1)] t36.1 (fun r => []) hA rfl rfl True.intro (fun as h => match as, h with | [], _ => rfl) (fun _ => rfl) (fun r as h => match as, h with | [], _ => rfl) (fun r j z => nomatch z) .nil (hm.bindR.imp (fun r37 hm v H hA => ?_) fun _ q => q)
          exact hm v H _ (hA.weak1 (.d .nil) fun j z => nomatch z)
end
end Lw

set_option Elab.async false
set_option linter.all false
set_option maxRecDepth 100000
set_option maxHeartbeats 1000000
namespace Lw
open PySem L2 Gv Rw
def kw (b : Bool) : Str := if b then "on" else "off"
def E (c : C) : Str × Int := (kw c.1, (c.2 : Int))
def bI (b : Bool) : Int := if b then 1 else 0
theorem kw_eq {a b : Bool} : decide (kw a = kw b) = decide (a = b) := by cases a <;> cases b <;> decide
theorem kw_on {a : Bool} : decide (kw a = ("on" : Str)) = a := by cases a <;> decide
theorem kw_off {a : Bool} : decide (kw a = ("off" : Str)) = !a := by cases a <;> decide
theorem kw_in (a : Bool) : decide (kw a ∈ [("on" : Str), ("off" : Str)]) = true := by cases a <;> decide
theorem bI_eq {a b : Bool} : decide (bI a = bI b) = decide (a = b) := by cases a <;> cases b <;> decide
theorem E_inj {a b : C} (h : E a = E b) : a = b := by
  obtain ⟨k, m⟩ := a
  obtain ⟨l, n⟩ := b
  unfold E at h
  simp only [Prod.mk.injEq] at h
  have h1 : k = l := by
    have := h.1
    cases k <;> cases l <;> first | rfl | exact absurd this (by decide)
  have h2 : m = n := by omega
  rw [h1, h2]
theorem lcR_filter {σ γ δ : Type} {s : σ} {f : σ → γ → R (σ × Option δ)} (p : γ → Bool) (g : γ → δ) : ∀ (xs : List γ) (acc : List δ), (∀ b, b ∈ xs → f s b = .nx (s, if p b then some (g b) else none)) → acc.length + xs.length ≤ 1000000 → lcR f xs s acc = .nx (s, acc ++ (xs.filter p).map g)
  | [], acc, _, _ => by rw [List.filter_nil, List.map_nil, List.append_nil]; rfl
  | x :: xs, acc, h, hl => by
    have e := h x List.mem_cons_self
    have hl' : acc.length < 1000000 := by simp at hl; omega
    unfold lcR
    rw [e]
    cases q : p x with
    | true =>
      show (if acc.length < 1000000 then lcR f xs s (acc ++ [g x]) else .stuck) = _
      rw [if_pos hl', lcR_filter p g xs (acc ++ [g x]) (fun b hb => h b (List.mem_cons_of_mem _ hb)) (by simp at hl ⊢; omega), List.append_assoc, List.filter_cons_of_pos q]
      rfl
    | false =>
      show lcR f xs s acc = _
      rw [lcR_filter p g xs acc (fun b hb => h b (List.mem_cons_of_mem _ hb)) (by simp at hl ⊢; omega), List.filter_cons_of_neg (by rw [q]; simp)]
theorem ite_some {σ δ : Type} {b : Bool} {s : σ} {y : δ} : (if b then (O.nx (s, some y) : R (σ × Option δ)) else .nx (s, none)) = .nx (s, if b then some y else none) := by cases b <;> rfl
theorem cut_to {α : Type} {xs : List α} {k : Nat} (h : k ≤ xs.length) : cutL xs none (some (k : Int)) = xs.take k := by
  unfold cutL
  have e1 : HT.sIx xs.length 0 none = 0 := rfl
  have e2 : HT.sIx xs.length xs.length (some (k : Int)) = k := by rw [HT.sIx_nat]; omega
  rw [e1, e2, List.drop_zero, Nat.sub_zero]
theorem cut_to' {α : Type} {xs : List α} (k : Nat) : cutL xs none (some (k : Int)) = xs.take k := by
  unfold cutL
  have e1 : HT.sIx xs.length 0 none = 0 := rfl
  have e2 : HT.sIx xs.length xs.length (some (k : Int)) = min k xs.length := by rw [HT.sIx_nat]
  rw [e1, e2, List.drop_zero, Nat.sub_zero]
  by_cases h : k ≤ xs.length
  · rw [Nat.min_eq_left h]
  · rw [Nat.min_eq_right (by omega), List.take_of_length_le (Nat.le_refl _), List.take_of_length_le (by omega)]
theorem cut_from {α : Type} {xs : List α} {k : Nat} (h : k ≤ xs.length) : cutL xs (some (k : Int)) none = xs.drop k := by
  unfold cutL
  have e1 : HT.sIx xs.length 0 (some (k : Int)) = k := by rw [HT.sIx_nat]; omega
  have e2 : HT.sIx xs.length xs.length none = xs.length := rfl
  rw [e1, e2]
  exact List.take_of_length_le (by simp)
theorem cut_mid {α : Type} {xs : List α} {k j : Nat} (h : k ≤ xs.length) : cutL xs (some (k : Int)) (some ((k : Int) + (j : Int))) = (xs.drop k).take j := by
  unfold cutL
  have e0 : ((k : Int) + (j : Int)) = ((k + j : Nat) : Int) := by omega
  have e1 : HT.sIx xs.length 0 (some (k : Int)) = k := by rw [HT.sIx_nat]; omega
  have e2 : HT.sIx xs.length xs.length (some ((k : Int) + (j : Int))) = min (k + j) xs.length := by rw [e0, HT.sIx_nat]
  rw [e1, e2]
  by_cases h2 : k + j ≤ xs.length
  · rw [Nat.min_eq_left h2, Nat.add_sub_cancel_left]
  · rw [Nat.min_eq_right (by omega), List.take_of_length_le (by simp), List.take_of_length_le (by simp; omega)]
/-! ### rows as data -/
structure RowD (d : PyData) (ds : List PyData) (row : List C) : Prop where
  is : d = .tuple ds ∨ d = .list ds
  len : ds.length = row.length
  at_ : ∀ (i : Nat) (x : PyData), ds[i]? = some x → ∃ c, row[i]? = some c ∧ (x = .tuple [.str (kw c.1), .int c.2] ∨ x = .list [.str (kw c.1), .int c.2])
abbrev dC : Str × Int → PyData := dP2 PyData.str PyData.int
theorem rowd_t (row : List C) : RowD (dT dC (row.map E)) (row.map fun c => .tuple [.str (kw c.1), .int c.2]) row := ⟨.inl (by unfold dT; rw [List.map_map]; rfl), by simp, fun i x hx => by
  rw [List.getElem?_map] at hx
  cases e : row[i]? with
  | none => rw [e] at hx; cases hx
  | some c => rw [e] at hx; exact ⟨c, rfl, .inl (Option.some.inj hx).symm⟩⟩
def listed (row : List C) : List (List PyData) := row.map fun c => [PyData.str (kw c.1), PyData.int c.2]
theorem rowd_l (row : List C) : RowD (dL (dL id) (listed row)) (row.map fun c => .list [.str (kw c.1), .int c.2]) row := ⟨.inr (by unfold dL listed; rw [List.map_map]; rfl), by simp, fun i x hx => by
  rw [List.getElem?_map] at hx
  cases e : row[i]? with
  | none => rw [e] at hx; cases hx
  | some c => rw [e] at hx; exact ⟨c, rfl, .inr (Option.some.inj hx).symm⟩⟩
theorem listed_ok {row : List C} (h : row.length ≤ 1000) : f_law_listed (row.map E) = .nx (listed row) := by
  unfold f_law_listed m_law_listed
  rw [lcR_map (fun b => [PyData.str b.1, PyData.int b.2]) (row.map E) [] (fun _ _ => rfl) (by simp; omega)]
  show O.nx _ = _
  unfold listed
  rw [List.nil_append, List.map_map]
  rfl
theorem RowD.seq {d : PyData} {ds : List PyData} {row : List C} (h : RowD d ds row) : (!(isA "list" d || isA "tuple" d)) = false := by
  rcases h.is with rfl | rfl <;> rfl
theorem RowD.items {d : PyData} {ds : List PyData} {row : List C} (h : RowD d ds row) : itemsD d = .nx ds := by
  rcases h.is with rfl | rfl <;> rfl
theorem whole_int (i : Int) : f_is_whole (.int i) = .nx true := rfl
theorem clocks_ok {d : PyData} {ds : List PyData} {row : List C} {w : Str} (h : RowD d ds row) (hl : row.length ≤ 1000) : f_checked_clocks (d, w) = .nx (row.map E) := by
  obtain ⟨r, e, q⟩ := o_val (m := f_checked_clocks (d, w)) (N := fun r => r = row.map E) (by
    refine o_fin ?_
    unfold m_checked_clocks
    rw [h.seq]
    refine o_ite (fun z => nomatch z) fun _ => ?_
    refine o_lt ?_
    refine o_bindR (o_eq h.items ?_)
    refine o_bind (o_for (fun k (s : List (Str × Int)) => s = (row.take k).map E) rfl (fun k s b hb hs => ?_) fun s hs => ?_)
    · obtain ⟨c, hc, hx⟩ := h.at_ k b hb
      have hk : k < row.length := (List.getElem?_eq_some_iff.mp hc).1
      have e1 : (!(isA "list" b || isA "tuple" b)) = false := by rcases hx with rfl | rfl <;> rfl
      have e2 : lenD b = .nx 2 := by rcases hx with rfl | rfl <;> rfl
      have e3 : unp2 b = .nx (.str (kw c.1), .int c.2) := by rcases hx with rfl | rfl <;> rfl
      rw [e1]
      refine o_bind (o_ite (fun z => nomatch z) fun _ => ?_)
      refine o_bindR (o_eq e2 ?_)
      refine o_nx (o_ite (fun z => nomatch z) fun _ => ?_)
      refine o_bindR (o_eq e3 ?_)
      refine o_bind (o_ite (fun z => nomatch z) fun _ => ?_)
      refine o_bindR (o_eq (a := kw c.1) rfl ?_)
      refine o_ite (fun z => absurd z (by rw [kw_in]; simp)) fun _ => ?_
      refine o_bindR (o_eq (whole_int _) ?_)
      refine o_ite (fun z => nomatch z) fun _ => ?_
      refine o_bindR (o_eq (a := (c.2 : Int)) rfl ?_)
      refine o_nx (o_ite (fun z => absurd (of_decide_eq_true z) (by omega)) fun _ => ?_)
      refine o_bindR (o_eq (a := kw c.1) rfl ?_)
      refine o_bindR (o_eq (a := (c.2 : Int)) rfl ?_)
      subst hs
      refine o_bindR (o_eq (appR_nx (by simp; omega)) ?_)
      refine o_nx ?_
      rw [List.take_succ, hc, List.map_append]
      rfl
    · rw [h.len, List.take_length] at hs
      exact o_rt hs)
  rw [e, q]
theorem delay_ok {n : Nat} {w : Str} : f_check_delay (.int n, w) = .nx () := by
  obtain ⟨r, e, q⟩ := o_val (m := f_check_delay (.int n, w)) (N := fun _ => True) (by
    refine o_fin ?_
    unfold m_check_delay
    refine o_bind (o_bindR (o_eq (whole_int _) ?_))
    refine o_ite (fun z => nomatch z) fun _ => ?_
    refine o_bindR (o_eq (a := (n : Int)) rfl ?_)
    exact o_nx (o_ite (fun z => absurd (of_decide_eq_true z) (by omega)) fun _ => trivial))
  exact e
theorem thrF_cons (k : Bool) (n r : Nat) (b : Bool) (bs : List Bool) : thrF k n r (b :: bs) = (if n < (if b = k then r + 1 else 0) then k else !k) :: thrF k n (if b = k then r + 1 else 0) bs := rfl
/-! ### one timer -/
theorem through_ok {k : Bool} {n : Nat} {bs : List Bool} (hl : bs.length ≤ 1000) : f_through_clock (kw k, (n : Int), bs.map bI) = .nx ((thr (k, n) bs).map bI) := by
  obtain ⟨r, e, q⟩ := o_val (m := f_through_clock (kw k, (n : Int), bs.map bI)) (N := fun r => r = (thr (k, n) bs).map bI) (by
    refine o_fin ?_
    unfold m_through_clock
    simp only [kw_on]
    have ew : (if k = true then (1 : Int) else 0) = bI k := rfl
    rw [ew]
    refine o_lt (o_lt (o_lt (o_bind ?_)))
    refine o_for (fun t (s : Int × List Int) => ∃ r : Nat, s.1 = (r : Int) ∧ s.2 ++ (thrF k n r (bs.drop t)).map bI = (thr (k, n) bs).map bI ∧ s.2.length = t) ⟨if k then 0 else n, by cases k <;> rfl, rfl, rfl⟩ (fun t s b hb hs => ?_) fun s hs => ?_
    · obtain ⟨r, h1, h2, h3⟩ := hs
      rw [List.getElem?_map] at hb
      obtain ⟨x, hx, rfl⟩ := Option.map_eq_some_iff.mp hb
      have ht : t < bs.length := (List.getElem?_eq_some_iff.mp hx).1
      have ed : bs.drop t = x :: bs.drop (t + 1) := by
        rw [List.drop_eq_getElem_cons ht]
        congr 1
        exact (List.getElem?_eq_some_iff.mp hx).2
      rw [ed] at h2
      refine o_lt ?_
      rw [h1]
      have er : (if decide (bI x = bI k) = true then (r : Int) + 1 else 0) = (((if x = k then r + 1 else 0 : Nat)) : Int) := by
        rw [bI_eq]
        by_cases c : x = k <;> simp [c]
      rw [er]
      refine o_bindR (o_eq (appR_nx (by omega)) ?_)
      refine o_nx ⟨_, rfl, ?_, by simp [h3]⟩
      rw [← h2, thrF_cons, List.map_cons, List.append_assoc]
      congr 1
      show _ :: _ = _ :: _
      congr 1
      by_cases c : n < (if x = k then r + 1 else 0)
      · rw [if_pos c, if_pos (decide_eq_true (by omega))]
      · rw [if_neg c, if_neg (by rw [decide_eq_true_eq]; omega)]
        cases k <;> rfl
    · obtain ⟨r, h1, h2, h3⟩ := hs
      rw [List.length_map, List.drop_length] at h2
      refine o_rt ?_
      rw [← h2]
      simp [thrF])
  rw [e, q]
/-! ### the bits -/
theorem bit_ok (b : Bool) : f_is_bit (.int (bI b)) = .nx true := by cases b <;> rfl
theorem ints_map : ∀ xs : List Int, intsR (xs.map PyData.int) = .nx xs
  | [] => rfl
  | x :: xs => by
    show bindR (intsR (xs.map PyData.int)) _ = _
    rw [ints_map xs]
    rfl
theorem row_ok {d : PyData} {bs : List Bool} (hd : d = dL PyData.int (bs.map bI) ∨ d = dT PyData.int (bs.map bI)) : f_checked_bits d = .nx (bs.map bI) := by
  have hi : itemsD d = .nx ((bs.map bI).map PyData.int) := by rcases hd with rfl | rfl <;> rfl
  have hs : (isA "list" d || isA "tuple" d) = true := by rcases hd with rfl | rfl <;> rfl
  have hlen : lenD d = .nx (bs.length : Int) := by
    rcases hd with rfl | rfl
    · show O.nx _ = _; simp
    · show O.nx _ = _; simp
  have h1 : f_check_row (d, (bs.length : Int)) = .nx (bs.map bI) := by
    obtain ⟨r, e, q⟩ := o_val (m := f_check_row (d, (bs.length : Int))) (N := fun r => r = bs.map bI) (by
      refine o_fin ?_
      unfold m_check_row
      rw [hs, hlen, hi]
      refine o_bind (o_ite (fun z => nomatch z) fun _ => ?_)
      refine o_bindR (o_eq rfl ?_)
      refine o_nx (o_ite (fun z => absurd z (by simp)) fun _ => ?_)
      refine o_bindR (o_eq rfl ?_)
      refine o_bind (o_for (fun _ _ => True) trivial (fun k s b hb _ => ?_) fun _ _ => ?_)
      · obtain ⟨_, b2⟩ := enumL_get hb
        rw [List.getElem?_map, List.getElem?_map] at b2
        cases e : bs[k]? with
        | none => rw [e] at b2; cases b2
        | some x =>
          rw [e] at b2
          have eb : b.2 = .int (bI x) := (Option.some.inj b2).symm
          rw [eb]
          refine o_bindR (o_eq (bit_ok x) ?_)
          exact o_ite (fun z => nomatch z) fun _ => trivial
      · refine o_bindR (o_eq rfl ?_)
        refine o_bindR (o_eq (ints_map _) ?_)
        exact o_rt rfl)
    rw [e, q]
  unfold f_checked_bits m_checked_bits
  rw [hs, hlen]
  show fin (bindR (f_check_row (d, (bs.length : Int))) _) _ = _
  rw [h1]
  rfl
theorem map_rep (n : Nat) : (List.replicate n [(0 : Int)]).flatten = (List.replicate n false).map bI := by
  induction n with
  | zero => rfl
  | succ n ih => rw [List.replicate_succ, List.flatten_cons, ih, List.replicate_succ, List.map_cons]; rfl
theorem delayed_ok {bs : List Bool} {d : Nat} (hl : bs.length ≤ 900) : f_delayed (dT PyData.int (bs.map bI), .int d) = .nx ((dly d bs).map bI) := by
  obtain ⟨r, e, q⟩ := o_val (m := f_delayed (dT PyData.int (bs.map bI), .int d)) (N := fun r => r = (dly d bs).map bI) (by
    refine o_fin ?_
    unfold m_delayed
    refine o_bindR (o_eq (row_ok (.inr rfl)) ?_)
    refine o_bind (o_bindR (o_eq (whole_int _) ?_))
    refine o_ite (fun z => nomatch z) fun _ => ?_
    refine o_bindR (o_eq (a := (d : Int)) rfl ?_)
    refine o_nx (o_ite (fun z => absurd (of_decide_eq_true z) (by omega)) fun _ => ?_)
    refine o_bindR (o_eq (a := (d : Int)) rfl ?_)
    refine o_lt ?_
    have em : minI (d : Int) ((bs.map bI).length : Int) = ((min d bs.length : Nat) : Int) := by
      unfold minI
      rw [List.length_map]
      split <;> omega
    rw [em]
    have er : repA [(0 : Int)] ((min d bs.length : Nat) : Int) = .nx ((List.replicate (min d bs.length) false).map bI) := by
      unfold repA
      rw [Int.toNat_natCast, map_rep]
      exact gd_true (by simp; omega)
    refine o_bindR (o_eq er ?_)
    have ec : (((bs.map bI).length : Int) - ((min d bs.length : Nat) : Int)) = ((bs.length - min d bs.length : Nat) : Int) := by
      rw [List.length_map]
      omega
    rw [ec, cut_to']
    refine o_bindR (o_eq (catR_nx (by simp; omega)) ?_)
    refine o_rt ?_
    unfold dly
    rw [← List.map_take, ← List.map_append]
    congr 1
    by_cases c : d ≤ bs.length
    · have t1 : (List.replicate d false).take bs.length = List.replicate d false := List.take_of_length_le (by simp; omega)
      rw [Nat.min_eq_left c, List.take_append, List.length_replicate, t1]
    · rw [Nat.min_eq_right (by omega), List.take_append, Nat.sub_self, List.take_zero, List.append_nil, List.length_replicate, show bs.length - d = 0 by omega, List.take_zero, List.append_nil, List.take_replicate, Nat.min_eq_left (by omega)])
  rw [e, q]
theorem thrs_len (row : List C) (bs : List Bool) : (thrs row bs).length = bs.length := by
  obtain ⟨a, b⟩ := stream_rep bs
  exact (thrs_rep row a b).2.2
theorem row_bits_ok {d e : PyData} {ds : List PyData} {row : List C} {bs : List Bool} {n : Nat} (h : RowD d ds row) (hl : row.length ≤ 1000) (he : e = dL PyData.int (bs.map bI) ∨ e = dT PyData.int (bs.map bI)) (hb : bs.length ≤ 900) : f_row_bits (d, e, .int n) = .nx ((outS row n bs).map bI) := by
  obtain ⟨r, e, q⟩ := o_val (m := f_row_bits (d, e, .int n)) (N := fun r => r = (outS row n bs).map bI) (by
    refine o_fin ?_
    unfold m_row_bits
    refine o_bindR (o_eq (clocks_ok h hl) ?_)
    refine o_bindR (o_eq (row_ok he) ?_)
    refine o_bindR (o_eq delay_ok ?_)
    refine o_bind (o_for (fun t (s : List Int) => s = (thrs (row.take t) bs).map bI) rfl (fun t s b hb' hs => ?_) fun s hs => ?_)
    · rw [List.getElem?_map] at hb'
      obtain ⟨c, hc, rfl⟩ := Option.map_eq_some_iff.mp hb'
      subst hs
      refine o_bindR (o_eq (through_ok (by rw [thrs_len]; omega)) ?_)
      refine o_nx ?_
      rw [List.take_succ, hc]
      unfold thrs
      rw [List.foldl_append]
      rfl
    · rw [List.length_map, List.take_length] at hs
      subst hs
      refine o_bindR (o_eq (delayed_ok (by rw [thrs_len]; omega)) ?_)
      exact o_rt rfl)
  rw [e, q]
theorem law_out_ok {row : List C} {bs : List Bool} {n : Nat} (hn : n ≤ 1000) (hb : bs.length ≤ 900) : f_law_out (row.map E, (n : Int), bs.map bI) = .nx ((outS row n bs).map bI) := by
  obtain ⟨r, e, q⟩ := o_val (m := f_law_out (row.map E, (n : Int), bs.map bI)) (N := fun r => r = (outS row n bs).map bI) (by
    refine o_fin ?_
    unfold m_law_out
    refine o_bind (o_for (fun t (s : List Int) => s = (thrs (row.take t) bs).map bI) rfl (fun t s b hb' hs => ?_) fun s hs => ?_)
    · rw [List.getElem?_map] at hb'
      obtain ⟨⟨k, m⟩, hc, rfl⟩ := Option.map_eq_some_iff.mp hb'
      have el := thrs_len (row.take t) bs
      have et : thrs (row.take (t + 1)) bs = thr (k, m) (thrs (row.take t) bs) := by
        rw [List.take_succ, hc]
        unfold thrs
        rw [List.foldl_append]
        rfl
      rw [et]
      subst hs
      generalize thrs (row.take t) bs = xs at el
      show Out (lt (if decide (kw k = ("on" : Str)) = true then (1 : Int) else 0) _) _ _ _ _ _
      rw [kw_on]
      have ew : (if k = true then (1 : Int) else 0) = bI k := rfl
      rw [ew]
      refine o_lt (o_lt (o_bind ?_))
      refine Out.imp (N := fun s5 : Int => s5 = (((if k then 0 else m : Nat)) : Int)) (T := fun _ => False) (B := fun _ => False) (C := fun _ => False) (E := fun _ => False) ?_ (fun s5 h5 => ?_) (fun _ q => q.elim) (fun _ q => q.elim) (fun _ q => q.elim) fun _ q => q.elim
      · show Out (if decide (kw k = ("off" : Str)) = true then _ else _) _ _ _ _ _
        rw [kw_off]
        cases k <;> exact o_nx rfl
      · subst h5
        refine o_lt (o_bind ?_)
        refine o_for (fun t (s : Int × List Int) => ∃ r : Nat, s.1 = (r : Int) ∧ s.2 ++ (thrF k m r (xs.drop t)).map bI = (thr (k, m) xs).map bI ∧ s.2.length = t) ⟨_, rfl, rfl, rfl⟩ (fun t s b hb hs => ?_) fun s hs => ?_
        · obtain ⟨r, h1, h2, h3⟩ := hs
          rw [List.getElem?_map] at hb
          obtain ⟨x, hx, rfl⟩ := Option.map_eq_some_iff.mp hb
          have ht : t < xs.length := (List.getElem?_eq_some_iff.mp hx).1
          have ed : xs.drop t = x :: xs.drop (t + 1) := by
            rw [List.drop_eq_getElem_cons ht]
            congr 1
            exact (List.getElem?_eq_some_iff.mp hx).2
          rw [ed] at h2
          refine o_bind (Out.imp (N := fun s9 : Int => s9 = (((if x = k then r + 1 else 0 : Nat)) : Int)) (T := fun _ => False) (B := fun _ => False) (C := fun _ => False) (E := fun _ => False) ?_ (fun s9 h9 => ?_) (fun _ q => q.elim) (fun _ q => q.elim) (fun _ q => q.elim) fun _ q => q.elim)
          · rw [bI_eq, h1]
            by_cases c : x = k
            · refine o_ite (fun _ => o_lt (o_nx ?_)) fun z => absurd c (of_decide_eq_false z)
              rw [if_pos c]
              rfl
            · refine o_ite (fun z => absurd (of_decide_eq_true z) c) fun _ => o_lt (o_nx ?_)
              rw [if_neg c]
              rfl
          · subst h9
            have fin_ : ∀ y : Int, y = bI (if m < (if x = k then r + 1 else 0) then k else !k) → (s.2 ++ [y]) ++ (thrF k m (if x = k then r + 1 else 0) (xs.drop (t + 1))).map bI = (thr (k, m) xs).map bI := fun y hy => by
              rw [← h2, hy, thrF_cons, List.map_cons, List.append_assoc]
              rfl
            refine o_ite (fun z => ?_) fun z => ?_
            · have z' : (m : Int) < (((if x = k then r + 1 else 0 : Nat)) : Int) := of_decide_eq_true z
              refine o_bindR (o_eq (appR_nx (by omega)) ?_)
              exact o_nx ⟨_, rfl, fin_ _ (by rw [if_pos (by omega)]), by simp [h3]⟩
            · have z' : ¬ (m : Int) < (((if x = k then r + 1 else 0 : Nat)) : Int) := of_decide_eq_false z
              refine o_bindR (o_eq (appR_nx (by omega)) ?_)
              refine o_nx ⟨_, rfl, fin_ _ ?_, by simp [h3]⟩
              rw [if_neg (by omega)]
              cases k <;> rfl
        · obtain ⟨r, h1, h2, h3⟩ := hs
          rw [List.length_map, List.drop_length] at h2
          refine o_nx ?_
          rw [← h2]
          simp [thrF]
    · rw [List.length_map, List.take_length] at hs
      subst hs
      have er : repL [(0 : Int)] (n : Int) = .nx ((List.replicate n false).map bI) := by
        unfold repL
        rw [Int.toNat_natCast, map_rep]
        exact gd_true (by simp; omega)
      refine o_bindR (o_eq er ?_)
      refine o_bindR (o_eq (catR_nx (by simp [thrs_len]; omega)) ?_)
      refine o_rt ?_
      show cutL _ none (some ((bs.map bI).length : Int)) = _
      rw [cut_to', List.length_map, ← List.map_append, ← List.map_take]
      unfold outS dly
      rw [thrs_len])
  rw [e, q]
end Lw

set_option Elab.async false
set_option linter.all false
set_option maxRecDepth 100000
set_option maxHeartbeats 1000000
namespace Lw
open PySem L2 Gv Rw
/-! ### numbers and draws -/
def Nn (l : List Int) : Prop := ∀ x, x ∈ l → 0 ≤ x
theorem Nn.app {l : List Int} {x : Int} (h : Nn l) (hx : 0 ≤ x) : Nn (l ++ [x]) := fun y hy => by
  rcases List.mem_append.mp hy with hy | hy
  · exact h y hy
  · have : y = x := by simpa using hy
    omega
theorem numbers_ok {ns : List Int} (hl : ns.length ≤ 63) : ∃ nums, f_law_numbers ns = .nx nums ∧ Nn nums := by
  refine o_val ?_
  refine o_fin ?_
  unfold m_law_numbers
  refine o_lt ?_
  refine o_bindR (o_eq (rngR_nx (by unfold minI; split <;> omega)) ?_)
  refine o_bind ?_
  refine o_for (fun k (s : List Int) => Nn s ∧ s.length ≤ 45 * k) ⟨fun x hx => (nomatch hx), by simp⟩ (fun k s b hb hs => ?_) fun s hs => ?_
  · have hk : k < 63 ∧ b = (k : Int) ∧ k < ns.length := by
      have e := rangeL_get hb
      have l := (List.getElem?_eq_some_iff.mp hb).1
      rw [rangeL_len] at l
      unfold minI at l
      split at l <;> omega
    obtain ⟨h63, rfl, hkl⟩ := hk
    obtain ⟨hs1, hs2⟩ := hs
    refine o_bindR (o_eq (idx_nat (List.getElem?_eq_getElem hkl)) ?_)
    refine o_lt ?_
    refine o_bind (N' := _) ?_
    have main : ∀ cell turned : Int, 0 ≤ cell → 0 ≤ turned → Out
        (if (decide (((10 : Int) ^ ((18 : Int)).toNat) ≤ cell)) then (bindR (rngR 0 (45 : Int)) fun l10 =>
(forO (fun (s11 : ((List Int) × Int)) (b12 : Int) =>
if (decide ((0 : Int) < s11.2)) then (bindR (appR s11.1 (s11.2 % (60 : Int))) fun ys13 =>
lt (s11.2 / (60 : Int)) fun (cell_14 : Int) =>
.nx (ys13, cell_14)) else (.nx (s11.1, s11.2))) l10 (s, cell)).bind fun (s11 : ((List Int) × Int)) =>
.nx s11.1) else (lt (((((cell * (16807 : Int)) + ((k : Int) * (7919 : Int))) + (turned * (104729 : Int))) + (11 : Int)) % (2147483629 : Int)) fun (seed_15 : Int) =>
bindR (rngR 0 (7 : Int)) fun l16 =>
(forO (fun (s17 : ((List Int) × Int)) (b18 : Int) =>
bindR (mulR (s17.2 / (1000 : Int)) b18) fun t19 =>
lt ((((s17.2 * (39373 : Int)) + t19) + (7919 : Int)) % (2147483629 : Int)) fun (seed_20 : Int) =>
bindR (appR s17.1 ((seed_20 / (7 : Int)) % (55440 : Int))) fun ys21 =>
.nx (ys21, seed_20)) l16 (s, seed_15)).bind fun (s17 : ((List Int) × Int)) =>
.nx s17.1) : O (List Int) (List Int) (List Int)) (fun s' => Nn s' ∧ s'.length ≤ 45 * (k + 1)) (fun r => Nn r) (fun _ => False) (fun _ => False) (fun _ => False) := by
      intro cell turned hc ht
      refine o_ite (fun _ => ?_) fun _ => ?_
      · refine o_bindR (o_eq (rngR_nx (by omega)) ?_)
        refine o_bind ?_
        refine o_for (fun n (s' : List Int × Int) => Nn s'.1 ∧ s'.1.length ≤ 45 * k + n ∧ 0 ≤ s'.2) ⟨hs1, by simpa using hs2, hc⟩ (fun n s' b hb h => ?_) fun s' h => ?_
        · obtain ⟨h1, h2, h3⟩ := h
          have hn : n < 45 := by
            have l := (List.getElem?_eq_some_iff.mp hb).1
            rw [rangeL_len] at l
            omega
          refine o_ite (fun _ => ?_) fun _ => ?_
          · rw [appR_nx (by omega)]
            refine o_bindR (o_eq rfl ?_)
            exact ⟨h1.app (Int.emod_nonneg _ (by omega)), by simp; omega, Int.ediv_nonneg h3 (by omega)⟩
          · exact ⟨h1, (show s'.1.length ≤ 45 * k + (n + 1) by omega), h3⟩
        · rw [rangeL_len] at h
          exact ⟨h.1, by have := h.2.1; omega⟩
      · refine o_lt ?_
        refine o_bindR (o_eq (rngR_nx (by omega)) ?_)
        refine o_bind ?_
        refine o_for (fun n (s' : List Int × Int) => Nn s'.1 ∧ s'.1.length ≤ 45 * k + n ∧ 0 ≤ s'.2 ∧ s'.2 < 2147483629) ⟨hs1, by simpa using hs2, Int.emod_nonneg _ (by omega), Int.emod_lt_of_pos _ (by omega)⟩ (fun n s' b hb h => ?_) fun s' h => ?_
        · obtain ⟨h1, h2, h3, h4⟩ := h
          have hb2 := mem_rangeL.mp (List.mem_of_getElem? hb)
          have hn : n < 7 := by
            have l := (List.getElem?_eq_some_iff.mp hb).1
            rw [rangeL_len] at l
            omega
          rw [mulR_nx (.inr (by omega))]
          refine o_bindR (o_eq rfl ?_)
          refine o_lt ?_
          rw [appR_nx (by omega)]
          refine o_bindR (o_eq rfl ?_)
          exact ⟨h1.app (Int.emod_nonneg _ (by omega)), by simp; omega, Int.emod_nonneg _ (by omega), Int.emod_lt_of_pos _ (by omega)⟩
        · rw [rangeL_len] at h
          exact ⟨h.1, by have := h.2.1; omega⟩
    refine o_ite (fun z => ?_) fun z => ?_
    · have z' : ns[k] < 0 := of_decide_eq_true z
      refine o_lt (o_lt (o_nx ?_))
      exact (main (0 - ns[k]) 1 (by omega) (by omega)).imp (fun _ q => q) (fun _ q => q) (fun _ q => q.elim) (fun _ q => q.elim) (fun _ q => q)
    · have z' : ¬ ns[k] < 0 := of_decide_eq_false z
      exact (main ns[k] 0 (by omega) (by omega)).imp (fun _ q => q) (fun _ q => q) (fun _ q => q.elim) (fun _ q => q.elim) (fun _ q => q)
  · refine o_lt (o_rt ?_)
    intro x hx
    exact hs.1 x (List.mem_reverse.mp hx)
theorem draw_ok {nums : List Int} {m : Int} (h : Nn nums) (hm : 0 < m) : OutR (f_law_draw (nums, m)) (fun r => 0 ≤ r.1 ∧ r.1 < m ∧ Nn r.2) (fun _ => False) := by
  refine o_fin ?_
  unfold m_law_draw
  refine o_ite (fun _ => ⟨Int.le_refl _, hm, h⟩) fun z => ?_
  have z' : ¬ (nums.length : Int) = 0 := of_decide_eq_false z
  have hl : nums.length - 1 < nums.length := by omega
  have e : nums[nums.length - 1]? = some nums[nums.length - 1] := List.getElem?_eq_getElem hl
  have ep : popR nums = .nx (nums[nums.length - 1], nums.dropLast) := by unfold popR; rw [e]
  refine o_bindR (o_eq ep ?_)
  refine o_bindR (o_eq (modR_nx hm) ?_)
  exact ⟨Int.emod_nonneg _ (by omega), Int.emod_lt_of_pos _ hm, fun x hx => h x ((List.dropLast_sublist _).subset hx)⟩
end Lw

set_option Elab.async false
set_option linter.all false
set_option maxRecDepth 100000
set_option maxHeartbeats 2000000
namespace Lw
open PySem L2 Gv Rw
def word : Rule → Str
  | .no => "" | .nothing => "nothing" | .added => "added" | .swing => "swing" | .tail => "tail"
theorem word_no (r : Rule) : decide (word r = ("" : Str)) = decide (r = .no) := by cases r <;> decide
theorem word_nothing (r : Rule) : decide (word r = ("nothing" : Str)) = decide (r = .nothing) := by cases r <;> decide
theorem word_added (r : Rule) : decide (word r = ("added" : Str)) = decide (r = .added) := by cases r <;> decide
theorem word_swing (r : Rule) : decide (word r = ("swing" : Str)) = decide (r = .swing) := by cases r <;> decide
section
variable {row : List C} {k : Nat}
theorem drop_at (i : Nat) : (row.drop k)[i]? = row[k + i]? := List.getElem?_drop
theorem map_at {i : Nat} {c : C} (h : row[i]? = some c) : (row.map E)[i]? = some (E c) := by rw [List.getElem?_map, h]; rfl
theorem len_drop {l : List C} (h : row.drop k = l) : l.length = row.length - k := by rw [← h, List.length_drop]
theorem idx_E {i : Nat} {c : C} (h : row[i]? = some c) : idx (row.map E) (i : Int) = .nx (E c) := idx_nat (map_at h)
theorem nat3 : ((k : Int) + 3) = ((k : Int) + ((3 : Nat) : Int)) := rfl
theorem here_ok (hk : k < row.length) : f_rule_here (row.map E, (k : Int)) = .nx (word (ruleH (row.drop k))) := by
  have hcut : cutL (row.map E) (some (k : Int)) (some ((k : Int) + 3)) = ((row.drop k).take 3).map E := by
    have := cut_mid (xs := row.map E) (k := k) (j := 3) (by rw [List.length_map]; omega)
    rw [List.map_take, List.map_drop]
    exact this
  obtain ⟨r, e, q⟩ := o_val (m := f_rule_here (row.map E, (k : Int))) (N := fun r => r = word (ruleH (row.drop k))) (by
    refine o_fin ?_
    unfold m_rule_here
    show Out (lt (cutL (row.map E) (some (k : Int)) (some ((k : Int) + 3))) _) _ _ _ _ _
    rw [hcut]
    have hne : row.drop k ≠ [] := by
      intro z
      have := len_drop z
      simp at this
      omega
    generalize row.drop k = l at hne
    refine o_lt ?_
    refine o_bindR (o_eq (lcR_map (fun b : Str × Int => b.1) _ [] (fun _ _ => rfl) (by simp; omega)) ?_)
    refine o_bindR (o_eq (lcR_map (fun b : Str × Int => b.2) _ [] (fun _ _ => rfl) (by simp; omega)) ?_)
    match l, hne with
    | [c], _ =>
      refine o_bindR (o_eq (a := (c.2 : Int)) rfl ?_)
      rw [rule1]
      refine o_ite (fun z => ?_) fun z => ?_
      · have z' : (c.2 : Int) = 0 := of_decide_eq_true z
        rw [if_pos (show c.2 = 0 by omega)]
        exact o_rt rfl
      · have z' : ¬ (c.2 : Int) = 0 := of_decide_eq_false z
        rw [if_neg (show ¬ c.2 = 0 by omega)]
        refine o_bind (o_ite (fun z => absurd z (by simp)) fun _ => o_nx ?_)
        refine o_ite (fun z => nomatch z) fun _ => ?_
        refine o_bind (o_ite (fun _ => o_nx ?_) fun z => absurd z (by simp))
        exact o_ite (fun _ => o_rt rfl) fun z => nomatch z
    | [c, c1], _ =>
      refine o_bindR (o_eq (a := (c.2 : Int)) rfl ?_)
      rw [rule2]
      refine o_ite (fun z => ?_) fun z => ?_
      · have z' : (c.2 : Int) = 0 := of_decide_eq_true z
        rw [if_pos (show c.2 = 0 by omega)]
        exact o_rt rfl
      · have z' : ¬ (c.2 : Int) = 0 := of_decide_eq_false z
        rw [if_neg (show ¬ c.2 = 0 by omega)]
        refine o_bind (o_ite (fun _ => ?_) fun z => absurd z (by simp))
        refine o_bindR (o_eq (a := kw c.1) rfl ?_)
        refine o_bindR (o_eq (a := kw c1.1) rfl ?_)
        rw [kw_eq]
        refine o_nx (o_ite (fun y => ?_) fun y => ?_)
        · have y' : c.1 = c1.1 := of_decide_eq_true y
          rw [if_pos (show c1.1 = c.1 from y'.symm)]
          exact o_rt rfl
        · have y' : ¬ c.1 = c1.1 := of_decide_eq_false y
          rw [if_neg (show ¬ c1.1 = c.1 from fun w => y' w.symm)]
          refine o_bind (o_ite (fun _ => o_nx ?_) fun z => absurd z (by simp))
          exact o_ite (fun _ => o_rt rfl) fun z => nomatch z
    | c :: c1 :: c2 :: t, _ =>
      refine o_bindR (o_eq (a := (c.2 : Int)) rfl ?_)
      rw [rule3]
      refine o_ite (fun z => ?_) fun z => ?_
      · have z' : (c.2 : Int) = 0 := of_decide_eq_true z
        rw [if_pos (show c.2 = 0 by omega)]
        exact o_rt rfl
      · have z' : ¬ (c.2 : Int) = 0 := of_decide_eq_false z
        rw [if_neg (show ¬ c.2 = 0 by omega)]
        refine o_bind (o_ite (fun _ => ?_) fun z => absurd z (by simp))
        refine o_bindR (o_eq (a := kw c.1) rfl ?_)
        refine o_bindR (o_eq (a := kw c1.1) rfl ?_)
        rw [kw_eq]
        refine o_nx (o_ite (fun y => ?_) fun y => ?_)
        · have y' : c.1 = c1.1 := of_decide_eq_true y
          rw [if_pos (show c1.1 = c.1 from y'.symm)]
          exact o_rt rfl
        · have y' : ¬ c.1 = c1.1 := of_decide_eq_false y
          rw [if_neg (show ¬ c1.1 = c.1 from fun w => y' w.symm)]
          refine o_bind (o_ite (fun z => absurd z (by simp)) fun _ => ?_)
          refine o_bindR (o_eq (a := kw c1.1) rfl ?_)
          refine o_bindR (o_eq (a := kw c2.1) rfl ?_)
          rw [kw_eq]
          have stop : ¬ (c2.1 = c.1 ∧ c1.2 ≤ c.2) → Out (if (true : Bool) = true then (O.rt ("" : Str)) else (O.bind (bindR (idx ([] ++ List.map (fun b : Str × Int => b.2) (List.map E (List.take 3 (c :: c1 :: c2 :: t)))) (1 : Int)) fun t18 =>
            bindR (idx ([] ++ List.map (fun b : Str × Int => b.2) (List.map E (List.take 3 (c :: c1 :: c2 :: t)))) (2 : Int)) fun t19 =>
            if (decide (t18 ≤ t19)) then (.nx ("swing" : Str)) else (.nx ("tail" : Str))) fun (j17 : Str) => .rt j17) : O Str Empty Empty) (fun a => OutR a.elim (fun r => r = word (if c2.1 = c.1 ∧ c1.2 ≤ c.2 then if c1.2 ≤ c2.2 then Rule.swing else Rule.tail else Rule.no)) fun _ => False) (fun r => r = word (if c2.1 = c.1 ∧ c1.2 ≤ c.2 then if c1.2 ≤ c2.2 then Rule.swing else Rule.tail else Rule.no)) (fun _ => True) (fun _ => True) (fun _ => False) := fun n => by
            rw [if_neg n]
            exact o_ite (fun _ => o_rt rfl) fun z => nomatch z
          refine o_ite (fun x => o_nx ?_) fun x => ?_
          · have x' : c1.1 = c2.1 := of_decide_eq_true x
            exact stop fun w => y' (by rw [x']; exact w.1.symm)
          · have x' : ¬ c1.1 = c2.1 := of_decide_eq_false x
            have x2 : c2.1 = c.1 := by cases h0 : c.1 <;> cases h1 : c1.1 <;> cases h2 : c2.1 <;> simp_all
            refine o_bindR (o_eq (a := (c1.2 : Int)) rfl ?_)
            refine o_bindR (o_eq (a := (c.2 : Int)) rfl ?_)
            by_cases w : c1.2 ≤ c.2
            · have dw : decide ((c.2 : Int) < (c1.2 : Int)) = false := decide_eq_false (by omega)
              rw [dw, if_pos ⟨x2, w⟩]
              refine o_nx (o_ite (fun z => nomatch z) fun _ => ?_)
              refine o_bind ?_
              refine o_bindR (o_eq (a := (c1.2 : Int)) rfl ?_)
              refine o_bindR (o_eq (a := (c2.2 : Int)) rfl ?_)
              refine o_ite (fun v => ?_) fun v => ?_
              · have v' : (c1.2 : Int) ≤ c2.2 := of_decide_eq_true v
                rw [if_pos (show c1.2 ≤ c2.2 by omega)]
                exact o_nx (o_rt rfl)
              · have v' : ¬ (c1.2 : Int) ≤ c2.2 := of_decide_eq_false v
                rw [if_neg (show ¬ c1.2 ≤ c2.2 by omega)]
                exact o_nx (o_rt rfl)
            · have dw : decide ((c.2 : Int) < (c1.2 : Int)) = true := decide_eq_true (by omega)
              rw [dw]
              exact o_nx (stop fun z => w z.2))
  rw [e, q]
theorem law_rule_ok (hk : k < row.length) : f_law_rule (row.map E, (k : Int)) = .nx (word (ruleH (row.drop k))) := by
  have k1 : ((k : Int) + 1) = ((k + 1 : Nat) : Int) := by omega
  have k2 : ((k : Int) + 2) = ((k + 2 : Nat) : Int) := by omega
  have hlen : ((row.map E).length : Int) = row.length := by rw [List.length_map]
  obtain ⟨r, e, q⟩ := o_val (m := f_law_rule (row.map E, (k : Int))) (N := fun r => r = word (ruleH (row.drop k))) (by
    refine o_fin ?_
    unfold m_law_rule
    have hd := fun i => drop_at (row := row) (k := k) i
    have hl := len_drop (row := row) (k := k) rfl
    match hm : row.drop k with
    | [] => rw [hm] at hl; simp at hl; omega
    | [c] =>
      rw [hm] at hl hd
      have r0 : row[k]? = some c := (hd 0).symm
      simp at hl
      refine o_bindR (o_eq (idx_E r0) ?_)
      rw [rule1]
      refine o_ite (fun z => ?_) fun z => ?_
      · have z' : (c.2 : Int) = 0 := of_decide_eq_true z
        rw [if_pos (show c.2 = 0 by omega)]
        exact o_rt rfl
      · have z' : ¬ (c.2 : Int) = 0 := of_decide_eq_false z
        rw [if_neg (show ¬ c.2 = 0 by omega)]
        refine o_bind (o_ite (fun z => ?_) fun _ => o_nx ?_)
        · have : (k : Int) + 1 < ((row.map E).length : Int) := of_decide_eq_true z
          omega
        · refine o_ite (fun z => nomatch z) fun _ => ?_
          refine o_bind (o_ite (fun z => ?_) fun _ => o_nx ?_)
          · have : (k : Int) + 2 < ((row.map E).length : Int) := of_decide_eq_true z
            omega
          · exact o_ite (fun z => nomatch z) fun _ => o_rt rfl
    | [c, c1] =>
      rw [hm] at hl hd
      have r0 : row[k]? = some c := (hd 0).symm
      have r1 : row[k + 1]? = some c1 := (hd 1).symm
      simp at hl
      refine o_bindR (o_eq (idx_E r0) ?_)
      rw [rule2]
      refine o_ite (fun z => ?_) fun z => ?_
      · have z' : (c.2 : Int) = 0 := of_decide_eq_true z
        rw [if_pos (show c.2 = 0 by omega)]
        exact o_rt rfl
      · have z' : ¬ (c.2 : Int) = 0 := of_decide_eq_false z
        rw [if_neg (show ¬ c.2 = 0 by omega)]
        refine o_bind (o_ite (fun _ => ?_) fun z => ?_)
        · refine o_bindR (o_eq (by rw [k1]; exact idx_E r1) ?_)
          refine o_nx ?_
          show Out (if decide (kw c1.1 = kw c.1) = true then _ else _) _ _ _ _ _
          rw [kw_eq]
          refine o_ite (fun y => ?_) fun y => ?_
          · rw [if_pos (of_decide_eq_true y)]
            exact o_rt rfl
          · rw [if_neg (of_decide_eq_false y)]
            refine o_bind (o_ite (fun z => ?_) fun _ => o_nx ?_)
            · have : (k : Int) + 2 < ((row.map E).length : Int) := of_decide_eq_true z
              omega
            · exact o_ite (fun z => nomatch z) fun _ => o_rt rfl
        · have : ¬ (k : Int) + 1 < ((row.map E).length : Int) := of_decide_eq_false z
          omega
    | c :: c1 :: c2 :: t =>
      rw [hm] at hl hd
      have r0 : row[k]? = some c := (hd 0).symm
      have r1 : row[k + 1]? = some c1 := (hd 1).symm
      have r2 : row[k + 2]? = some c2 := (hd 2).symm
      simp at hl
      refine o_bindR (o_eq (idx_E r0) ?_)
      rw [rule3]
      refine o_ite (fun z => ?_) fun z => ?_
      · have z' : (c.2 : Int) = 0 := of_decide_eq_true z
        rw [if_pos (show c.2 = 0 by omega)]
        exact o_rt rfl
      · have z' : ¬ (c.2 : Int) = 0 := of_decide_eq_false z
        rw [if_neg (show ¬ c.2 = 0 by omega)]
        refine o_bind (o_ite (fun _ => ?_) fun z => ?_)
        · refine o_bindR (o_eq (by rw [k1]; exact idx_E r1) ?_)
          refine o_nx ?_
          show Out (if decide (kw c1.1 = kw c.1) = true then _ else _) _ _ _ _ _
          rw [kw_eq]
          refine o_ite (fun y => ?_) fun y => ?_
          · rw [if_pos (of_decide_eq_true y)]
            exact o_rt rfl
          · rw [if_neg (of_decide_eq_false y)]
            refine o_bind (o_ite (fun _ => ?_) fun z => ?_)
            · refine o_bindR (o_eq (by rw [k2]; exact idx_E r2) ?_)
              show Out (if decide (kw c2.1 = kw c.1) = true then _ else _) _ _ _ _ _
              rw [kw_eq]
              refine o_ite (fun x => ?_) fun x => ?_
              · have x' : c2.1 = c.1 := of_decide_eq_true x
                refine o_bindR (o_eq (by rw [k1]; exact idx_E r1) ?_)
                refine o_nx ?_
                refine o_ite (fun w => ?_) fun w => ?_
                · have w' : (c1.2 : Int) ≤ c.2 := of_decide_eq_true w
                  rw [if_pos ⟨x', show c1.2 ≤ c.2 by omega⟩]
                  refine o_bindR (o_eq (by rw [k1]; exact idx_E r1) ?_)
                  refine o_bindR (o_eq (by rw [k2]; exact idx_E r2) ?_)
                  refine o_ite (fun v => ?_) fun v => ?_
                  · have v' : (c1.2 : Int) ≤ c2.2 := of_decide_eq_true v
                    rw [if_pos (show c1.2 ≤ c2.2 by omega)]
                    exact o_rt rfl
                  · have v' : ¬ (c1.2 : Int) ≤ c2.2 := of_decide_eq_false v
                    rw [if_neg (show ¬ c1.2 ≤ c2.2 by omega)]
                    exact o_rt rfl
                · have w' : ¬ (c1.2 : Int) ≤ c.2 := of_decide_eq_false w
                  rw [if_neg (show ¬ (c2.1 = c.1 ∧ c1.2 ≤ c.2) from fun z => w' (by have := z.2; omega))]
                  exact o_rt rfl
              · have x' : ¬ c2.1 = c.1 := of_decide_eq_false x
                rw [if_neg (show ¬ (c2.1 = c.1 ∧ c1.2 ≤ c.2) from fun z => x' z.1)]
                refine o_nx ?_
                exact o_ite (fun z => nomatch z) fun _ => o_rt rfl
            · have : ¬ (k : Int) + 2 < ((row.map E).length : Int) := of_decide_eq_false z
              omega
        · have : ¬ (k : Int) + 1 < ((row.map E).length : Int) := of_decide_eq_false z
          omega)
  rw [e, q]
/-! ### the rules of a row -/
def rules (row : List C) : List (Int × Str) := ((rangeL 0 (row.length : Int)).map fun b => (b, word (ruleH (row.drop b.toNat)))).filter fun p => !decide (p.2 = ("" : Str))
theorem usable_ok (h : row.length ≤ 1000) : f_usable_rules (row.map E) = .nx (rules row) := by
  unfold f_usable_rules m_usable_rules
  rw [List.length_map, rngR_nx (by omega)]
  simp only [bindR_nx]
  rw [lcR_map (fun b => (b, word (ruleH (row.drop b.toNat)))) (rangeL 0 (row.length : Int)) [] (fun b hb => by
    obtain ⟨b1, b2⟩ := mem_rangeL.mp hb
    obtain ⟨k, rfl⟩ : ∃ k : Nat, b = (k : Int) := ⟨b.toNat, by omega⟩
    rw [here_ok (by omega)]
    rfl) (by rw [rangeL_len]; simp; omega)]
  simp only [bindR_nx]
  rw [lcR_filter (fun p => !decide (p.2 = ("" : Str))) id _ [] (fun b _ => ite_some) (by simp [rangeL_len]; omega)]
  simp only [bindR_nx]
  show O.nx _ = _
  rw [List.map_id]
  rfl
theorem law_rules_ok (h : row.length ≤ 1000) : f_law_rules (row.map E) = .nx (rules row) := by
  unfold f_law_rules m_law_rules
  rw [List.length_map, rngR_nx (by omega)]
  simp only [bindR_nx]
  rw [lcR_map (fun b => (b, word (ruleH (row.drop b.toNat)))) (rangeL 0 (row.length : Int)) [] (fun b hb => by
    obtain ⟨b1, b2⟩ := mem_rangeL.mp hb
    obtain ⟨k, rfl⟩ : ∃ k : Nat, b = (k : Int) := ⟨b.toNat, by omega⟩
    rw [law_rule_ok (by omega)]
    rfl) (by rw [rangeL_len]; simp; omega)]
  simp only [bindR_nx]
  rw [lcR_filter (fun p => !decide (p.2 = ("" : Str))) id _ [] (fun b _ => ite_some) (by simp [rangeL_len]; omega)]
  simp only [bindR_nx]
  show O.nx _ = _
  rw [List.map_id]
  rfl
theorem mem_rules {p : Int × Str} : p ∈ rules row ↔ ∃ k : Nat, k < row.length ∧ p = ((k : Int), word (ruleH (row.drop k))) ∧ ruleH (row.drop k) ≠ .no := by
  unfold rules
  rw [List.mem_filter, List.mem_map]
  constructor
  · rintro ⟨⟨b, hb, rfl⟩, h⟩
    obtain ⟨b1, b2⟩ := mem_rangeL.mp hb
    obtain ⟨k, rfl⟩ : ∃ k : Nat, b = (k : Int) := ⟨b.toNat, by omega⟩
    refine ⟨k, by omega, by simp, fun z => ?_⟩
    rw [Int.toNat_natCast, z] at h
    exact absurd h (by show ¬ ((!decide (word Rule.no = ("" : Str))) = true); decide)
  · rintro ⟨k, hk, rfl, h⟩
    refine ⟨⟨k, mem_rangeL.mpr ⟨by omega, by omega⟩, by simp⟩, ?_⟩
    rw [word_no, decide_eq_false h]
    rfl
theorem rules_nil : rules row = [] ↔ Nf row := by
  constructor
  · intro h k hk
    apply Classical.byContradiction
    intro z
    have := mem_rules.mpr ⟨k, hk, rfl, z⟩
    rw [h] at this
    cases this
  · intro h
    apply List.eq_nil_iff_forall_not_mem.mpr
    intro p hp
    obtain ⟨k, hk, _, z⟩ := mem_rules.mp hp
    exact z (h k hk)
/-! ### a rule used -/
theorem cuts (j : Nat) (h : k + j ≤ row.length) : cutL (row.map E) (some ((k : Int) + (j : Int))) none = (row.drop (k + j)).map E := by
  have e : ((k : Int) + (j : Int)) = ((k + j : Nat) : Int) := by omega
  rw [e, cut_from (by rw [List.length_map]; exact h), List.map_drop]
theorem cut0 : cutL (row.map E) none (some (k : Int)) = (row.take k).map E := by rw [cut_to', List.map_take]
theorem ruled_ok {d : Nat} (hl : row.length ≤ 1000) (hk : k < row.length) (hr : ruleH (row.drop k) ≠ .no) : f_ruled (row.map E, (d : Int), (k : Int), word (ruleH (row.drop k))) = .nx ((beh row k).1.map E, ((d + (beh row k).2 : Nat) : Int)) := by
  obtain ⟨r, e, q⟩ := o_val (m := f_ruled (row.map E, (d : Int), (k : Int), word (ruleH (row.drop k)))) (N := fun r => r = ((beh row k).1.map E, ((d + (beh row k).2 : Nat) : Int))) (by
    refine o_fin ?_
    unfold m_ruled
    show Out (lt (cutL (row.map E) none (some (k : Int))) _) _ _ _ _ _
    rw [cut0]
    have hd := fun i => drop_at (row := row) (k := k) i
    have hlen := len_drop (row := row) (k := k) rfl
    have dd : ∀ j, row.drop (k + j) = (row.drop k).drop j := fun j => by rw [List.drop_drop]
    unfold beh
    have k1 : ((k : Int) + 1) = ((k + 1 : Nat) : Int) := by omega
    have k2 : ((k : Int) + 2) = ((k + 2 : Nat) : Int) := by omega
    refine o_lt ?_
    rcases rule_cases (row.drop k) with e | ⟨c, t, hm, hc, e⟩ | ⟨c, c1, t, hm, hc, e⟩ | ⟨c, c1, c2, t, hm, h1, h2, h3, h4, e⟩ | ⟨c, c1, c2, t, hm, h1, h2, h3, h4, e⟩
    · exact absurd e hr
    · rw [e]
      rw [hm] at hd hlen dd
      have r0 : row[k]? = some c := (hd 0).symm
      refine o_bindR (o_eq (idx_E r0) ?_)
      refine o_ite (fun _ => ?_) fun z => absurd z (by dsimp only; simp only [decide_eq_true_eq, decide_eq_false_iff_not]; decide)
      have ec := cuts (row := row) (k := k) 1 (by simp at hlen; omega)
      rw [dd 1] at ec
      refine o_bindR (o_eq (by rw [show cutL (row.map E) (some ((k : Int) + 1)) none = _ from ec]; exact catR_nx (by simp at hlen ⊢; omega)) ?_)
      refine o_rt ?_
      rw [hm, ← List.map_append]
      rfl
    · rw [e]
      rw [hm] at hd hlen dd
      have r0 : row[k]? = some c := (hd 0).symm
      have r1 : row[k + 1]? = some c1 := (hd 1).symm
      refine o_bindR (o_eq (idx_E r0) ?_)
      refine o_ite (fun z => absurd z (by dsimp only; simp only [decide_eq_true_eq, decide_eq_false_iff_not]; decide)) fun _ => ?_
      refine o_bindR (o_eq (by rw [k1]; exact idx_E r1) ?_)
      refine o_ite (fun _ => ?_) fun z => absurd z (by dsimp only; simp only [decide_eq_true_eq, decide_eq_false_iff_not]; decide)
      have ec := cuts (row := row) (k := k) 2 (by simp at hlen; omega)
      rw [dd 2] at ec
      refine o_bindR (o_eq (catR_nx (by simp; omega)) ?_)
      refine o_bindR (o_eq (by rw [show cutL (row.map E) (some ((k : Int) + 2)) none = _ from ec]; exact catR_nx (by simp at hlen ⊢; omega)) ?_)
      refine o_rt ?_
      rw [hm, List.append_assoc, List.map_append]
      rfl
    · rw [e]
      rw [hm] at hd hlen dd
      have r0 : row[k]? = some c := (hd 0).symm
      have r1 : row[k + 1]? = some c1 := (hd 1).symm
      have r2 : row[k + 2]? = some c2 := (hd 2).symm
      refine o_bindR (o_eq (idx_E r0) ?_)
      refine o_ite (fun z => absurd z (by dsimp only; simp only [decide_eq_true_eq, decide_eq_false_iff_not]; decide)) fun _ => ?_
      refine o_bindR (o_eq (by rw [k1]; exact idx_E r1) ?_)
      refine o_ite (fun z => absurd z (by dsimp only; simp only [decide_eq_true_eq, decide_eq_false_iff_not]; decide)) fun _ => ?_
      refine o_bindR (o_eq (by rw [k2]; exact idx_E r2) ?_)
      refine o_ite (fun _ => ?_) fun z => absurd z (by dsimp only; simp only [decide_eq_true_eq, decide_eq_false_iff_not]; decide)
      have ec := cuts (row := row) (k := k) 3 (by simp at hlen; omega)
      rw [dd 3] at ec
      refine o_bindR (o_eq (catR_nx (by simp; omega)) ?_)
      refine o_bindR (o_eq (by rw [show cutL (row.map E) (some ((k : Int) + 3)) none = _ from ec]; exact catR_nx (by simp at hlen ⊢; omega)) ?_)
      refine o_rt ?_
      rw [hm, List.append_assoc, List.map_append]
      have en : (c.2 : Int) + c2.2 - c1.2 = ((c.2 + c2.2 - c1.2 : Nat) : Int) := by omega
      refine Prod.ext ?_ ?_
      · show _ ++ ([(kw c.1, (c.2 : Int) + c2.2 - c1.2)] ++ _) = _
        rw [en]
        rfl
      · show (d : Int) + (c1.2 : Int) = ((d + c1.2 : Nat) : Int)
        omega
    · rw [e]
      rw [hm] at hd hlen dd
      have r0 : row[k]? = some c := (hd 0).symm
      have r1 : row[k + 1]? = some c1 := (hd 1).symm
      have r2 : row[k + 2]? = some c2 := (hd 2).symm
      refine o_bindR (o_eq (idx_E r0) ?_)
      refine o_ite (fun z => absurd z (by dsimp only; simp only [decide_eq_true_eq, decide_eq_false_iff_not]; decide)) fun _ => ?_
      refine o_bindR (o_eq (by rw [k1]; exact idx_E r1) ?_)
      refine o_ite (fun z => absurd z (by dsimp only; simp only [decide_eq_true_eq, decide_eq_false_iff_not]; decide)) fun _ => ?_
      refine o_bindR (o_eq (by rw [k2]; exact idx_E r2) ?_)
      refine o_ite (fun z => absurd z (by dsimp only; simp only [decide_eq_true_eq, decide_eq_false_iff_not]; decide)) fun _ => ?_
      have ec := cuts (row := row) (k := k) 3 (by simp at hlen; omega)
      rw [dd 3] at ec
      refine o_bindR (o_eq (catR_nx (by simp; omega)) ?_)
      refine o_bindR (o_eq (by rw [show cutL (row.map E) (some ((k : Int) + 3)) none = _ from ec]; exact catR_nx (by simp at hlen ⊢; omega)) ?_)
      refine o_rt ?_
      rw [hm, List.append_assoc, List.map_append]
      have en : (c1.2 : Int) - c2.2 = ((c1.2 - c2.2 : Nat) : Int) := by omega
      refine Prod.ext ?_ ?_
      · show _ ++ ([(kw c.1, (c.2 : Int)), (kw c1.1, (c1.2 : Int) - c2.2)] ++ _) = _
        rw [en]
        rfl
      · show (d : Int) + (c2.2 : Int) = ((d + c2.2 : Nat) : Int)
        omega)
  rw [e, q]
theorem behind_ok {d : Nat} (hl : row.length ≤ 1000) (hk : k < row.length) (hr : ruleH (row.drop k) ≠ .no) : f_law_behind (row.map E, (d : Int), (k : Int), word (ruleH (row.drop k))) = .nx ((beh row k).1.map E, ((d + (beh row k).2 : Nat) : Int)) := by
  obtain ⟨r, e, q⟩ := o_val (m := f_law_behind (row.map E, (d : Int), (k : Int), word (ruleH (row.drop k)))) (N := fun r => r = ((beh row k).1.map E, ((d + (beh row k).2 : Nat) : Int))) (by
    refine o_fin ?_
    unfold m_law_behind
    show Out (lt (cutL (row.map E) none (some (k : Int))) _) _ _ _ _ _
    rw [cut0]
    have hd := fun i => drop_at (row := row) (k := k) i
    have hlen := len_drop (row := row) (k := k) rfl
    have dd : ∀ j, row.drop (k + j) = (row.drop k).drop j := fun j => by rw [List.drop_drop]
    unfold beh
    have k1 : ((k : Int) + 1) = ((k + 1 : Nat) : Int) := by omega
    have k2 : ((k : Int) + 2) = ((k + 2 : Nat) : Int) := by omega
    refine o_lt ?_
    rcases rule_cases (row.drop k) with e | ⟨c, t, hm, hc, e⟩ | ⟨c, c1, t, hm, hc, e⟩ | ⟨c, c1, c2, t, hm, h1, h2, h3, h4, e⟩ | ⟨c, c1, c2, t, hm, h1, h2, h3, h4, e⟩
    · exact absurd e hr
    · rw [e]
      rw [hm] at hd hlen dd
      have r0 : row[k]? = some c := (hd 0).symm
      refine o_bindR (o_eq (idx_E r0) ?_)
      refine o_ite (fun _ => ?_) fun z => absurd z (by dsimp only; simp only [decide_eq_true_eq, decide_eq_false_iff_not]; decide)
      have ec := cuts (row := row) (k := k) 1 (by simp at hlen; omega)
      rw [dd 1] at ec
      refine o_bindR (o_eq (by rw [show cutL (row.map E) (some ((k : Int) + 1)) none = _ from ec]; exact catR_nx (by simp at hlen ⊢; omega)) ?_)
      refine o_rt ?_
      rw [hm, ← List.map_append]
      rfl
    · rw [e]
      rw [hm] at hd hlen dd
      have r0 : row[k]? = some c := (hd 0).symm
      have r1 : row[k + 1]? = some c1 := (hd 1).symm
      refine o_bindR (o_eq (idx_E r0) ?_)
      refine o_ite (fun z => absurd z (by dsimp only; simp only [decide_eq_true_eq, decide_eq_false_iff_not]; decide)) fun _ => ?_
      refine o_ite (fun _ => ?_) fun z => absurd z (by dsimp only; simp only [decide_eq_true_eq, decide_eq_false_iff_not]; decide)
      refine o_bindR (o_eq (by rw [k1]; exact idx_E r1) ?_)
      have ec := cuts (row := row) (k := k) 2 (by simp at hlen; omega)
      rw [dd 2] at ec
      refine o_bindR (o_eq (catR_nx (by simp; omega)) ?_)
      refine o_bindR (o_eq (by rw [show cutL (row.map E) (some ((k : Int) + 2)) none = _ from ec]; exact catR_nx (by simp at hlen ⊢; omega)) ?_)
      refine o_rt ?_
      rw [hm, List.append_assoc, List.map_append]
      rfl
    · rw [e]
      rw [hm] at hd hlen dd
      have r0 : row[k]? = some c := (hd 0).symm
      have r1 : row[k + 1]? = some c1 := (hd 1).symm
      have r2 : row[k + 2]? = some c2 := (hd 2).symm
      refine o_bindR (o_eq (idx_E r0) ?_)
      refine o_ite (fun z => absurd z (by dsimp only; simp only [decide_eq_true_eq, decide_eq_false_iff_not]; decide)) fun _ => ?_
      refine o_ite (fun z => absurd z (by dsimp only; simp only [decide_eq_true_eq, decide_eq_false_iff_not]; decide)) fun _ => ?_
      refine o_bindR (o_eq (by rw [k1]; exact idx_E r1) ?_)
      refine o_bindR (o_eq (by rw [k2]; exact idx_E r2) ?_)
      refine o_ite (fun _ => ?_) fun z => absurd z (by dsimp only; simp only [decide_eq_true_eq, decide_eq_false_iff_not]; decide)
      have ec := cuts (row := row) (k := k) 3 (by simp at hlen; omega)
      rw [dd 3] at ec
      refine o_bindR (o_eq (catR_nx (by simp; omega)) ?_)
      refine o_bindR (o_eq (by rw [show cutL (row.map E) (some ((k : Int) + 3)) none = _ from ec]; exact catR_nx (by simp at hlen ⊢; omega)) ?_)
      refine o_rt ?_
      rw [hm, List.append_assoc, List.map_append]
      have en : (c.2 : Int) + c2.2 - c1.2 = ((c.2 + c2.2 - c1.2 : Nat) : Int) := by omega
      refine Prod.ext ?_ ?_
      · show _ ++ ([(kw c.1, (c.2 : Int) + c2.2 - c1.2)] ++ _) = _
        rw [en]
        rfl
      · show (d : Int) + (c1.2 : Int) = ((d + c1.2 : Nat) : Int)
        omega
    · rw [e]
      rw [hm] at hd hlen dd
      have r0 : row[k]? = some c := (hd 0).symm
      have r1 : row[k + 1]? = some c1 := (hd 1).symm
      have r2 : row[k + 2]? = some c2 := (hd 2).symm
      refine o_bindR (o_eq (idx_E r0) ?_)
      refine o_ite (fun z => absurd z (by dsimp only; simp only [decide_eq_true_eq, decide_eq_false_iff_not]; decide)) fun _ => ?_
      refine o_ite (fun z => absurd z (by dsimp only; simp only [decide_eq_true_eq, decide_eq_false_iff_not]; decide)) fun _ => ?_
      refine o_bindR (o_eq (by rw [k1]; exact idx_E r1) ?_)
      refine o_bindR (o_eq (by rw [k2]; exact idx_E r2) ?_)
      refine o_ite (fun z => absurd z (by dsimp only; simp only [decide_eq_true_eq, decide_eq_false_iff_not]; decide)) fun _ => ?_
      refine o_bindR (o_eq (by rw [k1]; exact idx_E r1) ?_)
      have ec := cuts (row := row) (k := k) 3 (by simp at hlen; omega)
      rw [dd 3] at ec
      refine o_bindR (o_eq (catR_nx (by simp; omega)) ?_)
      refine o_bindR (o_eq (by rw [show cutL (row.map E) (some ((k : Int) + 3)) none = _ from ec]; exact catR_nx (by simp at hlen ⊢; omega)) ?_)
      refine o_rt ?_
      rw [hm, List.append_assoc, List.map_append]
      have en : (c1.2 : Int) - c2.2 = ((c1.2 - c2.2 : Nat) : Int) := by omega
      refine Prod.ext ?_ ?_
      · show _ ++ ([(kw c.1, (c.2 : Int)), (kw c1.1, (c1.2 : Int) - c2.2)] ++ _) = _
        rw [en]
        rfl
      · show (d : Int) + (c2.2 : Int) = ((d + c2.2 : Nat) : Int)
        omega)
  rw [e, q]
end
end Lw

set_option Elab.async false
set_option linter.all false
set_option maxRecDepth 100000
set_option maxHeartbeats 2000000
namespace Lw
open PySem L2 Gv Rw
/-! ### a datum is itself -/
structure Rf (v : PyData) (n : Nat) : Prop where
  eq : PyData.eqv v v = true
  lay : PyData.canLay0 v = true
  dep : PyData.depth v ≤ n
theorem eqR_self {v : PyData} {n : Nat} (h : Rf v n) (hn : n ≤ 64) : eqR v v = .nx true := by
  unfold eqR SeqAt.shaped
  rw [h.eq, h.lay, decide_eq_true (Nat.le_trans h.dep hn)]
  rfl
theorem rf_int (i : Int) : Rf (.int i) 0 := ⟨eq_i.eq i i |>.mpr rfl, eq_i.lay i, eq_i.dep i⟩
theorem rf_none : Rf .none 0 := ⟨by rw [PyData.eqv], by rw [PyData.canLay0], by rw [PyData.depth]; exact Nat.le_refl 0⟩
theorem rf_str {s : Str} (h : PyData.canLay0 (.str s) = true) : Rf (.str s) 0 := ⟨by rw [PyData.eqv]; exact beq_self_eq_true s, h, by rw [PyData.depth]; exact Nat.le_refl 0⟩
theorem rf_all {n : Nat} : ∀ {ds : List PyData}, (∀ d, d ∈ ds → Rf d n) → PyData.eqvAll ds ds = true ∧ PyData.canLayAll0 ds = true ∧ PyData.depthAll ds ≤ n
  | [], _ => ⟨eqvAll_n, layAll_n, by rw [depAll_n]; exact Nat.zero_le _⟩
  | d :: ds, h => by
    obtain ⟨a, b, c⟩ := h d List.mem_cons_self
    obtain ⟨x, y, z⟩ := rf_all fun e he => h e (List.mem_cons_of_mem _ he)
    exact ⟨by rw [eqvAll_c, a, x]; rfl, by rw [layAll_c, b, y]; rfl, by rw [depAll_c]; exact Nat.max_le.mpr ⟨c, z⟩⟩
theorem rf_list {n : Nat} {ds : List PyData} (h : ∀ d, d ∈ ds → Rf d n) : Rf (.list ds) (n + 1) := by
  obtain ⟨a, b, c⟩ := rf_all h
  exact ⟨by rw [PyData.eqv]; exact a, by rw [PyData.canLay0]; exact b, by rw [PyData.depth]; exact Nat.succ_le_succ c⟩
theorem rf_tuple {n : Nat} {ds : List PyData} (h : ∀ d, d ∈ ds → Rf d n) : Rf (.tuple ds) (n + 1) := by
  obtain ⟨a, b, c⟩ := rf_all h
  exact ⟨by rw [PyData.eqv]; exact a, by rw [PyData.canLay0]; exact b, by rw [PyData.depth]; exact Nat.succ_le_succ c⟩
theorem rf_two {a b : PyData} {n : Nat} (h1 : Rf a n) (h2 : Rf b n) : Rf (.tuple [a, b]) (n + 1) := rf_tuple fun d hd => by
  simp only [List.mem_cons, List.not_mem_nil, or_false] at hd
  rcases hd with rfl | rfl <;> assumption
theorem rf_three {a b c : PyData} {n : Nat} (h1 : Rf a n) (h2 : Rf b n) (h3 : Rf c n) : Rf (.tuple [a, b, c]) (n + 1) := rf_tuple fun d hd => by
  simp only [List.mem_cons, List.not_mem_nil, or_false] at hd
  rcases hd with rfl | rfl | rfl <;> assumption
theorem Rf.up {v : PyData} {n m : Nat} (h : Rf v n) (hm : n ≤ m) : Rf v m := ⟨h.eq, h.lay, Nat.le_trans h.dep hm⟩
theorem rf_kw (b : Bool) : Rf (.str (kw b)) 0 := rf_str (by cases b <;> decide +kernel)
theorem rf_word (r : Rule) : Rf (.str (word r)) 0 := rf_str (by cases r <;> decide +kernel)
theorem rf_row (row : List C) : Rf (dT dC (row.map E)) 2 := rf_tuple fun d hd => by
  rw [List.map_map] at hd
  obtain ⟨c, _, rfl⟩ := List.mem_map.mp hd
  exact rf_two (rf_kw c.1) (rf_int _)
theorem rf_rd (row : List C) (d : Int) : Rf ((dP2 (dT dC) PyData.int) (row.map E, d)) 3 := rf_two (rf_row row) ((rf_int d).up (by omega))
section
variable {row : List C} {k : Nat}
theorem rf_rules : Rf ((dL (dP2 PyData.int PyData.str)) (rules row)) 2 := rf_list fun d hd => by
  obtain ⟨p, hp, rfl⟩ := List.mem_map.mp hd
  obtain ⟨k, _, rfl, _⟩ := mem_rules.mp hp
  exact rf_two (rf_int _) (rf_word _)
theorem pair_told {d : Int} : f_law_pair_told ((row.map E, d), (row.map E, d)) = .nx true := by
  obtain ⟨r, e, q⟩ := o_val (m := f_law_pair_told ((row.map E, d), (row.map E, d))) (N := fun r => r = true) (by
    refine o_fin ?_
    unfold m_law_pair_told
    refine o_bind (o_ite (fun z => absurd z (by simp [isA, dP2])) fun _ => ?_)
    refine o_bindR (o_eq (eqR_self (rf_rd row d) (by decide)) ?_)
    refine o_ite (fun z => nomatch z) fun _ => ?_
    refine o_ite (fun z => absurd z (by simp [isA, dT])) fun _ => ?_
    refine o_bindR (o_eq (a := true) rfl ?_)
    refine o_nx (o_ite (fun z => nomatch z) fun _ => ?_)
    refine o_bind (o_for (fun _ _ => True) trivial (fun i s b _ _ => ?_) fun _ _ => o_rt rfl)
    refine o_bind (o_ite (fun z => absurd z (by simp [isA, dP2])) fun _ => ?_)
    refine o_bindR (o_eq (a := true) rfl ?_)
    exact o_nx (o_ite (fun z => nomatch z) fun _ => trivial))
  rw [e, q]
/-! ### the first rule -/
def simple (p : Int × Str) : Bool := decide (p.2 ∈ [("nothing" : Str), ("added" : Str)])
def firstL (row : List C) : Option (Int × Str) := ((rules row).filter simple ++ rules row)[0]?
theorem rules_len : (rules row).length ≤ row.length := by
  unfold rules
  refine Nat.le_trans (List.length_filter_le _ _) ?_
  rw [List.length_map, rangeL_len]
  omega
theorem firstL_some {p : Int × Str} (h : firstL row = some p) : ∃ k : Nat, k < row.length ∧ p = ((k : Int), word (ruleH (row.drop k))) ∧ ruleH (row.drop k) ≠ .no := by
  have := List.mem_of_getElem? h
  rcases List.mem_append.mp this with h | h
  · exact mem_rules.mp (List.mem_filter.mp h).1
  · exact mem_rules.mp h
theorem firstL_none (h : firstL row = none) : rules row = [] := by
  have := List.getElem?_eq_none_iff.mp h
  rw [List.length_append] at this
  exact List.eq_nil_of_length_eq_zero (by omega)
theorem first_ok (hl : row.length ≤ 1000) : f_first_rule (row.map E) = .nx (firstL row) := by
  have hr := rules_len (row := row)
  obtain ⟨r, e, q⟩ := o_val (m := f_first_rule (row.map E)) (N := fun r => r = firstL row) (by
    refine o_fin ?_
    unfold m_first_rule
    refine o_bindR (o_eq (usable_ok hl) ?_)
    refine o_bindR (o_eq (lcR_filter simple id _ [] (fun b _ => ite_some) (by simp; omega)) ?_)
    rw [List.map_id, List.nil_append]
    unfold firstL
    cases hs : (rules row).filter simple with
    | cons a t =>
      refine o_ite (fun _ => ?_) fun z => absurd (of_decide_eq_false z) (by simp)
      refine o_bindR (o_eq (idx_nat (k := 0) (a := a) rfl) ?_)
      exact o_rt rfl
    | nil =>
      refine o_ite (fun z => absurd z (by simp)) fun _ => ?_
      cases hq : rules row with
      | cons a t =>
        refine o_bind (o_ite (fun _ => ?_) fun z => absurd (of_decide_eq_false z) (by simp))
        refine o_bindR (o_eq (idx_nat (k := 0) (a := a) rfl) ?_)
        exact o_nx (o_rt rfl)
      | nil =>
        refine o_bind (o_ite (fun z => absurd z (by simp)) fun _ => ?_)
        exact o_nx (o_rt rfl))
  rw [e, q]
/-- what the first rule leads to -/
def ledF (row : List C) (d : Nat) : Option (List (Str × Int) × Int × Str) := (firstL row).map fun p => ((beh row p.1.toNat).1.map E, ((d + (beh row p.1.toNat).2 : Nat) : Int), p.2)
theorem one_rule_ok {e : PyData} {ds : List PyData} {d : Nat} (h : RowD e ds row) (hl : row.length ≤ 1000) : f_one_rule (e, .int d) = .nx (ledF row d) := by
  obtain ⟨r, e, q⟩ := o_val (m := f_one_rule (e, .int d)) (N := fun r => r = ledF row d) (by
    refine o_fin ?_
    unfold m_one_rule
    refine o_bindR (o_eq (clocks_ok h hl) ?_)
    refine o_bindR (o_eq delay_ok ?_)
    refine o_bindR (o_eq (first_ok hl) ?_)
    unfold ledF
    cases hf : firstL row with
    | none =>
      refine o_bind (o_ite (fun _ => o_nx (o_rt rfl)) fun z => nomatch z)
    | some p =>
      obtain ⟨k, hk, rfl, hr⟩ := firstL_some hf
      refine o_bind (o_ite (fun z => nomatch z) fun _ => ?_)
      refine o_bindR (o_eq (a := (d : Int)) rfl ?_)
      refine o_bindR (o_eq (a := ((k : Int), word (ruleH (row.drop k)))) rfl ?_)
      refine o_bindR (o_eq (a := ((k : Int), word (ruleH (row.drop k)))) rfl ?_)
      refine o_bindR (o_eq (ruled_ok hl hk hr) ?_)
      refine o_bindR (o_eq (a := ((k : Int), word (ruleH (row.drop k)))) rfl ?_)
      refine o_nx (o_rt ?_)
      rfl)
  rw [e, q]
theorem law_first_ok {d : Nat} (hl : row.length ≤ 1000) : f_law_first (row.map E, (d : Int), rules row) = .nx (ledF row d) := by
  have hr := rules_len (row := row)
  obtain ⟨r, e, q⟩ := o_val (m := f_law_first (row.map E, (d : Int), rules row)) (N := fun r => r = ledF row d) (by
    refine o_fin ?_
    unfold m_law_first
    refine o_bindR (o_eq (lcR_filter simple id _ [] (fun b _ => ite_some) (by show 0 + (rules row).length ≤ _; omega)) ?_)
    rw [List.map_id, List.nil_append]
    refine o_ite (fun z => ?_) fun z => ?_
    · have z' : ((rules row).length : Int) = 0 := of_decide_eq_true z
      have hn : rules row = [] := List.eq_nil_of_length_eq_zero (by omega)
      refine o_rt ?_
      unfold ledF firstL
      rw [hn]
      rfl
    · have z' : ¬ ((rules row).length : Int) = 0 := of_decide_eq_false z
      cases hf : firstL row with
      | none => rw [firstL_none hf] at z'; exact absurd rfl z'
      | some p =>
        refine o_bindR (o_eq (catR_nx (by have := List.length_filter_le simple (rules row); show ((rules row).filter simple).length + (rules row).length ≤ _; omega)) ?_)
        refine o_bindR (o_eq (idx_nat (k := 0) hf) ?_)
        obtain ⟨k, hk, rfl, hr⟩ := firstL_some hf
        refine o_bindR (o_eq (behind_ok hl hk hr) ?_)
        refine o_rt ?_
        unfold ledF
        rw [hf]
        rfl)
  rw [e, q]
theorem rf_led {d : Nat} : Rf ((dO (dP3 (dT dC) PyData.int PyData.str)) (ledF row d)) 3 := by
  unfold ledF
  cases hf : firstL row with
  | none => exact rf_none.up (by omega)
  | some p =>
    obtain ⟨k, _, rfl, _⟩ := firstL_some hf
    exact rf_three (rf_row _) ((rf_int _).up (by omega)) ((rf_word _).up (by omega))
/-! ### to the end -/
/-- reached by the rules -/
structure Led (row : List C) (d : Nat) (row' : List C) (d' : Nat) : Prop where
  len : row'.length ≤ row.length
  inv : inv row' = inv row
  sum : ∀ b, sumK b row' + d' = sumK b row + d
  out : ∀ bs, outS row' d' bs = outS row d bs
theorem Led.refl (row : List C) (d : Nat) : Led row d row d := ⟨Nat.le_refl _, rfl, fun _ => rfl, fun _ => rfl⟩
theorem Led.step {r0 : List C} {d0 d : Nat} (h : Led r0 d0 row d) (hr : ruleH (row.drop k) ≠ .no) : Led r0 d0 (beh row k).1 (d + (beh row k).2) := ⟨by have := beh_len hr; have := h.len; omega, (beh_inv row k).trans h.inv, fun b => by have := beh_sum b row k; have := h.sum b; omega, fun bs => (outS_beh row k d bs).trans (h.out bs)⟩
theorem led_uniq {r0 a b : List C} {d0 d e : Nat} (h1 : Led r0 d0 a d) (h2 : Led r0 d0 b e) (ha : Nf a) (hb : Nf b) : a = b ∧ d = e := by
  have e1 := nf_uniq ha hb (h1.inv.trans h2.inv.symm)
  subst e1
  have := h1.sum true
  have := h2.sum true
  exact ⟨rfl, by omega⟩
theorem normal_ok {e : PyData} {ds : List PyData} {d : Nat} (h : RowD e ds row) (hl : row.length ≤ 1000) : ∃ row' d', f_normal (e, .int d) = .nx (row'.map E, ((d' : Nat) : Int)) ∧ Nf row' ∧ Led row d row' d' := by
  obtain ⟨r, e1, row', d', rfl, h1, h2⟩ := o_val (m := f_normal (e, .int d)) (N := fun r => ∃ row' d', r = (row'.map E, ((d' : Nat) : Int)) ∧ Nf row' ∧ Led row d row' d') (by
    refine o_fin ?_
    unfold m_normal
    refine o_bindR (o_eq (clocks_ok h hl) ?_)
    refine o_bindR (o_eq delay_ok ?_)
    refine o_bindR (o_eq (a := (d : Int)) rfl ?_)
    have nc : OutR (f_normal_clocks (row.map E, (d : Int))) (fun r => ∃ row' d', r = (row'.map E, ((d' : Nat) : Int)) ∧ Nf row' ∧ Led row d row' d') (fun _ => False) := by
      refine o_fin ?_
      unfold m_normal_clocks
      refine o_bindR (o_eq (first_ok hl) ?_)
      refine o_bind ?_
      refine o_while (fun s => ∃ row' d', s = (row'.map E, ((d' : Nat) : Int), firstL row') ∧ Led row d row' d') (fun s => s.1.length) (fun s hs => ?_) 100000 _ ⟨row, d, rfl, .refl row d⟩ (by show (row.map E).length < 100000; simp; omega)
      obtain ⟨row', d', rfl, led⟩ := hs
      have hl' : row'.length ≤ 1000 := by have := led.len; omega
      refine ⟨fun z => ?_, fun z => ?_⟩
      · cases hf : firstL row' with
        | some p => rw [hf] at z; cases z
        | none => exact o_rt ⟨row', d', rfl, rules_nil.mp (firstL_none hf), led⟩
      · cases hf : firstL row' with
        | none => rw [hf] at z; cases z
        | some p =>
          obtain ⟨k, hk, rfl, hr⟩ := firstL_some hf
          refine o_bindR (o_eq (a := ((k : Int), word (ruleH (row'.drop k)))) rfl ?_)
          refine o_bindR (o_eq (a := ((k : Int), word (ruleH (row'.drop k)))) rfl ?_)
          refine o_bindR (o_eq (ruled_ok hl' hk hr) ?_)
          have hb := beh_len hr
          refine o_bindR (o_eq (first_ok (by omega)) ?_)
          refine o_nx ⟨⟨_, _, rfl, led.step hr⟩, ?_⟩
          show ((beh row' k).1.map E).length < (row'.map E).length
          simpa using hb
    refine o_bindR (nc.imp (fun r q => o_rt q) fun _ q => q))
  exact ⟨row', d', e1, h1, h2⟩
theorem use_ok {e : PyData} {ds : List PyData} {d : Nat} (h : RowD e ds row) (hl : row.length ≤ 1000) (hk : k < row.length) (hr : ruleH (row.drop k) ≠ .no) : f_use (e, .int d, .int (k : Int)) = .nx ((beh row k).1.map E, ((d + (beh row k).2 : Nat) : Int)) := by
  obtain ⟨r, e1, q⟩ := o_val (m := f_use (e, .int d, .int (k : Int))) (N := fun r => r = ((beh row k).1.map E, ((d + (beh row k).2 : Nat) : Int))) (by
    refine o_fin ?_
    unfold m_use
    refine o_bindR (o_eq (clocks_ok h hl) ?_)
    refine o_bindR (o_eq delay_ok ?_)
    refine o_bindR (o_eq (usable_ok hl) ?_)
    obtain ⟨j, hj⟩ := List.getElem?_of_mem (mem_rules.mpr ⟨k, hk, rfl, hr⟩)
    refine o_bind (o_for (fun i _ => i ≤ j) (Nat.zero_le _) (fun i s b hb hi => ?_) fun s hs => ?_)
    · obtain ⟨k', hk', rfl, hr'⟩ := mem_rules.mp (List.mem_of_getElem? hb)
      refine o_bind (o_bindR (o_eq (whole_int _) ?_))
      refine o_ite (fun _ => ?_) fun z => nomatch z
      have ee : eqR (PyData.int (k' : Int)) (PyData.int (k : Int)) = .nx (decide ((k' : Int) = (k : Int))) := by
        unfold eqR
        rw [eq_i.dec]
        exact gd_true (by rw [eq_i.shaped (by decide), eq_i.shaped (by decide)]; rfl)
      refine o_bindR (o_eq ee ?_)
      refine o_nx (o_ite (fun z => ?_) fun z => ?_)
      · have z' : (k' : Int) = (k : Int) := of_decide_eq_true z
        have : k' = k := by omega
        subst this
        refine o_bindR (o_eq (a := (d : Int)) rfl ?_)
        refine o_bindR (o_eq (ruled_ok hl hk hr) ?_)
        exact o_rt rfl
      · have z' : ¬ (k' : Int) = (k : Int) := of_decide_eq_false z
        refine o_nx ?_
        have : i ≠ j := fun w => by
          subst w
          rw [hb] at hj
          have := congrArg Prod.fst (Option.some.inj hj)
          exact z' this
        omega
    · have := (List.getElem?_eq_some_iff.mp hj).1
      omega)
  rw [e1, q]
abbrev eWord (w : Str) : Er := ⟨"BadNumber", [("word", (PyData.str w))]⟩
theorem o_ers {α : Type} {m : R α} {e : Er} (h : OutR m (fun _ => False) (fun x => x = e)) : m = .er e := by
  cases m with
  | nx a => exact h.elim
  | rt r => exact r.elim
  | bk r => exact r.elim
  | ct r => exact r.elim
  | er x => rw [show x = e from h]
  | stuck => exact h.elim
theorem use_no {e : PyData} {ds : List PyData} {d : Nat} {p : Int} (h : RowD e ds row) (hl : row.length ≤ 1000) (hp : ∀ k : Nat, k < row.length → (k : Int) = p → ruleH (row.drop k) = .no) : f_use (e, .int d, .int p) = .er (eWord "place") := by
  refine o_ers ?_
  refine o_fin ?_
  unfold m_use
  refine o_bindR (o_eq (clocks_ok h hl) ?_)
  refine o_bindR (o_eq delay_ok ?_)
  refine o_bindR (o_eq (usable_ok hl) ?_)
  refine o_bind (o_for (fun _ _ => True) trivial (fun i s b hb hi => ?_) fun s hs => ?_)
  · obtain ⟨k', hk', rfl, hr'⟩ := mem_rules.mp (List.mem_of_getElem? hb)
    refine o_bind (o_bindR (o_eq (whole_int _) ?_))
    refine o_ite (fun _ => ?_) fun z => nomatch z
    have ee : eqR (PyData.int (k' : Int)) (PyData.int p) = .nx (decide ((k' : Int) = p)) := by
      unfold eqR
      rw [eq_i.dec]
      exact gd_true (by rw [eq_i.shaped (by decide), eq_i.shaped (by decide)]; rfl)
    refine o_bindR (o_eq ee ?_)
    refine o_nx (o_ite (fun z => ?_) fun _ => trivial)
    exact absurd (hp k' hk' (of_decide_eq_true z)) hr'
  · exact o_er rfl
end
end Lw

set_option Elab.async false
set_option linter.all false
set_option maxRecDepth 100000
set_option maxHeartbeats 2000000
namespace Lw
open PySem L2 Gv Rw
section
variable {ρ lam α β : Type} {N : α → Prop} {T : ρ → Prop} {B C : lam → Prop} {E : Er → Prop}
theorem o_try {m : O ρ lam α} {h : Er → O ρ lam α} (h1 : Out m N T B C (fun x => Out (h x) N T B C E)) : Out (tryO m h) N T B C E := by
  cases m <;> exact h1
theorem o_eqE {m : R α} {e : Er} (h : m = .er e) (k : E e) : OutR m N E := by
  rw [h]
  exact k
end
theorem sum_cast (l : List C) : (l.map fun c => (c.2 : Int)).sum = (((l.map (·.2)).sum : Nat) : Int) := by
  induction l with
  | nil => rfl
  | cons c l ih => rw [List.map_cons, List.sum_cons, ih, List.map_cons, List.sum_cons]; omega
theorem sum_kind (k : Bool) (row : List C) (p : Str × Int → Bool) (hp : ∀ c, p (E c) = decide (c.1 = k)) : (((row.map E).filter p).map (·.2)).sum = ((sumK k row : Nat) : Int) := by
  rw [List.filter_map, List.map_map]
  have e : (p ∘ E) = fun c => decide (c.1 = k) := funext hp
  rw [e]
  unfold sumK
  rw [← sum_cast]
  rfl
theorem sums_ok {row : List C} {d : Nat} (hl : row.length ≤ 1000) : f_law_sums (row.map E, (d : Int)) = .nx [((sumK true row + d : Nat) : Int), ((sumK false row + d : Nat) : Int)] := by
  unfold f_law_sums m_law_sums
  rw [lcR_filter (fun b : Str × Int => decide (b.1 = ("on" : Str))) (fun b : Str × Int => b.2) _ [] (fun b _ => ite_some) (by simp; omega)]
  simp only [bindR_nx, lt_eq]
  rw [lcR_filter (fun b : Str × Int => decide (b.1 = ("off" : Str))) (fun b : Str × Int => b.2) _ [] (fun b _ => ite_some) (by simp; omega)]
  simp only [bindR_nx, lt_eq, List.nil_append]
  rw [sum_kind true row _ (fun c => by show decide (kw c.1 = ("on" : Str)) = _; rw [kw_on]; cases c.1 <;> rfl), sum_kind false row _ (fun c => by show decide (kw c.1 = ("off" : Str)) = _; rw [kw_off]; cases c.1 <;> rfl)]
  show O.nx _ = _
  rw [← Int.natCast_add, ← Int.natCast_add]
section
variable {row : List C} {k : Nat}
theorem rangeL_succ (n : Nat) : rangeL 0 ((n + 1 : Nat) : Int) = rangeL 0 (n : Int) ++ [(n : Int)] := by
  unfold rangeL
  have e1 : (((n + 1 : Nat) : Int) - 0).toNat = n + 1 := by omega
  have e2 : ((n : Int) - 0).toNat = n := by omega
  rw [e1, e2, List.range_succ, List.map_append]
  simp
theorem filter_range (b : Int) : ∀ n : Nat, (rangeL 0 (n : Int)).filter (fun x => decide (x = b)) = if 0 ≤ b ∧ b < n then [b] else []
  | 0 => by
    rw [if_neg (by omega)]
    rfl
  | n + 1 => by
    rw [rangeL_succ, List.filter_append, filter_range b n]
    by_cases h : b = (n : Int)
    · subst h
      rw [if_neg (by omega), if_pos (by omega)]
      simp
    · have e : [(n : Int)].filter (fun x => decide (x = b)) = [] := by
        rw [List.filter_cons_of_neg (by rw [decide_eq_true_eq]; exact fun z => h z.symm)]
        rfl
      rw [e, List.append_nil]
      by_cases h2 : 0 ≤ b ∧ b < n
      · rw [if_pos h2, if_pos (by omega)]
      · rw [if_neg h2, if_neg (by omega)]
theorem pr_yes (hk : k < row.length) (hr : ruleH (row.drop k) ≠ .no) : ((rules row).filter fun p => decide (p.1 = (k : Int))).map (·.2) = [word (ruleH (row.drop k))] := by
  have hq : (!decide ((((k : Int), word (ruleH (row.drop k))) : Int × Str).2 = ("" : Str))) = true := by
    rw [word_no, decide_eq_false hr]
    rfl
  unfold rules
  rw [List.filter_filter]
  have e1 : ∀ l : List (Int × Str), l.filter (fun p => decide (p.1 = (k : Int)) && !decide (p.2 = ("" : Str))) = (l.filter fun p => decide (p.1 = (k : Int))).filter fun p => !decide (p.2 = ("" : Str)) := fun l => by
    rw [List.filter_filter]
    congr 1
    funext p
    rw [Bool.and_comm]
  rw [e1, List.filter_map]
  have e2 : ((fun p : Int × Str => decide (p.1 = (k : Int))) ∘ fun b : Int => (b, word (ruleH (row.drop b.toNat)))) = fun b => decide (b = (k : Int)) := rfl
  rw [e2, filter_range, if_pos (by omega), List.map_cons, List.map_nil, Int.toNat_natCast, List.filter_cons_of_pos (p := fun p : Int × Str => !decide (p.2 = ("" : Str))) hq]
  rfl
theorem pr_no {p : Int} (hp : ∀ k : Nat, k < row.length → (k : Int) = p → ruleH (row.drop k) = .no) : ((rules row).filter fun q => decide (q.1 = p)).map (·.2) = [] := by
  rw [List.map_eq_nil_iff, List.filter_eq_nil_iff]
  intro q hq z
  obtain ⟨k, hk, rfl, hr⟩ := mem_rules.mp hq
  exact hr (hp k hk (of_decide_eq_true z))
theorem rules_at_ok {e : PyData} {ds : List PyData} (h : RowD e ds row) (hl : row.length ≤ 1000) : f_rules_at e = .nx (rules row) := by
  unfold f_rules_at m_rules_at
  rw [clocks_ok h hl]
  simp only [bindR_nx]
  rw [usable_ok hl]
  rfl
theorem turn_ok {d : Nat} (hl : row.length ≤ 1000) : f_law_turn (row.map E, (d : Int), rules row) = .nx true := by
  have hrl := rules_len (row := row)
  obtain ⟨r, e, q⟩ := o_val (m := f_law_turn (row.map E, (d : Int), rules row)) (N := fun r => r = true) (by
    refine o_fin ?_
    unfold m_law_turn
    refine o_bindR (o_eq (listed_ok hl) ?_)
    refine o_bindR (o_eq (rules_at_ok (rowd_l row) hl) ?_)
    refine o_bind (o_ite (fun z => absurd z (by simp [isA, dT])) fun _ => ?_)
    refine o_bindR (o_eq (eqR_self rf_rules (by decide)) ?_)
    refine o_nx (o_ite (fun z => nomatch z) fun _ => ?_)
    refine o_bindR (o_eq (one_rule_ok (rowd_t row) hl) ?_)
    refine o_bindR (o_eq (law_first_ok hl) ?_)
    refine o_bindR (o_eq (eqR_self rf_led (by decide)) ?_)
    refine o_ite (fun z => nomatch z) fun _ => ?_
    refine o_bindR (o_eq (rngR_nx (by rw [List.length_map]; omega)) ?_)
    refine o_bind (o_for (fun _ _ => True) trivial (fun i s b hb _ => ?_) fun _ _ => o_rt rfl)
    refine o_bindR (o_eq (lcR_filter (fun p : Int × Str => decide (p.1 = b)) (fun p : Int × Str => p.2) _ [] (fun _ _ => ite_some) (by show 0 + (rules row).length ≤ _; omega)) ?_)
    rw [List.nil_append]
    refine o_lt ?_
    by_cases hc : ∃ k : Nat, k < row.length ∧ (k : Int) = b ∧ ruleH (row.drop k) ≠ .no
    · obtain ⟨k, hk, rfl, hr⟩ := hc
      rw [pr_yes hk hr]
      refine o_bind (o_try ?_)
      refine o_bindR (o_eq (listed_ok hl) ?_)
      refine o_bindR (o_eq (use_ok (rowd_l row) hl hk hr) ?_)
      refine o_bind (o_ite (fun z => absurd z (by simp)) fun _ => ?_)
      refine o_bindR (o_eq (a := word (ruleH (row.drop k))) rfl ?_)
      refine o_bindR (o_eq (behind_ok hl hk hr) ?_)
      refine o_bindR (o_eq pair_told ?_)
      refine o_nx (o_ite (fun z => nomatch z) fun _ => o_nx ?_)
      refine o_bindR (o_eq (a := ("" : Str)) rfl ?_)
      exact o_ite (fun z => absurd z (by decide)) fun _ => trivial
    · have hp : ∀ k : Nat, k < row.length → (k : Int) = b → ruleH (row.drop k) = .no := fun k hk e => by
        apply Classical.byContradiction
        intro z
        exact hc ⟨k, hk, e, z⟩
      rw [pr_no hp]
      refine o_bind (o_try ?_)
      refine o_bindR (o_eq (listed_ok hl) ?_)
      refine o_bindR (o_eqE (use_no (rowd_l row) hl hp) ?_)
      have clo : (clO sub_BadNumber (fun x15 => bindR (fldR x15 "BadNumber" "word") fun t23 => bindR (strD t23) fun t24 => .nx t24) (fun x => .er x) (eWord "place") : O Bool Unit Str) = .nx "place" := by simp [clO, sub_BadNumber, noEr, fldR, strD, List.lookup]
      show Out (clO sub_BadNumber (fun x15 => bindR (fldR x15 "BadNumber" "word") fun t23 => bindR (strD t23) fun t24 => .nx t24) (fun x => .er x) (eWord "place") : O Bool Unit Str) _ _ _ _ _
      rw [clo]
      refine o_nx ?_
      refine o_bindR (o_eq (a := ("place" : Str)) rfl ?_)
      exact o_ite (fun z => absurd z (by decide)) fun _ => trivial)
  rw [e, q]
end
end Lw

set_option Elab.async false
set_option linter.all false
set_option maxRecDepth 100000
set_option maxHeartbeats 2000000
namespace Lw
open PySem L2 Gv Rw
/-! ### what is refused -/
abbrev cD (c : C) : PyData := .tuple [.str (kw c.1), .int c.2]
/-- no clock at all -/
def badL : List PyData := [.tuple [.str "on", .int (-1)], .tuple [.str "On", .int 1], .tuple [.str "on", .bool true], .tuple [.str "pulse", .int 1], .tuple [.str "on", .int 1, .int 1], .int 3, .tuple [.str "off", .str "1"]]
theorem clocks_bad {row : List C} {x : PyData} {rest : List PyData} {w : Str} (hl : row.length ≤ 1000) (hx : x ∈ badL) : f_checked_clocks (.tuple (row.map cD ++ x :: rest), w) = .er (eWord w) := by
  refine o_ers ?_
  refine o_fin ?_
  unfold m_checked_clocks
  refine o_ite (fun z => nomatch z) fun _ => ?_
  refine o_lt ?_
  refine o_bindR (o_eq (a := row.map cD ++ x :: rest) rfl ?_)
  refine o_bind (o_for (fun k (s : List (Str × Int)) => k ≤ row.length ∧ s.length = k) ⟨Nat.zero_le _, rfl⟩ (fun k s b hb hs => ?_) fun s hs => ?_)
  · obtain ⟨hk, hs⟩ := hs
    rw [List.getElem?_append] at hb
    by_cases c : k < row.length
    · rw [if_pos (by simpa using c), List.getElem?_map, List.getElem?_eq_getElem c] at hb
      have hb' : b = cD row[k] := (Option.some.inj hb).symm
      subst hb'
      refine o_bind (o_ite (fun z => nomatch z) fun _ => ?_)
      refine o_bindR (o_eq (a := (2 : Int)) rfl ?_)
      refine o_nx (o_ite (fun z => nomatch z) fun _ => ?_)
      refine o_bindR (o_eq (a := (PyData.str (kw row[k].1), PyData.int row[k].2)) rfl ?_)
      refine o_bind (o_ite (fun z => nomatch z) fun _ => ?_)
      refine o_bindR (o_eq (a := kw row[k].1) rfl ?_)
      refine o_ite (fun z => absurd z (by rw [kw_in]; simp)) fun _ => ?_
      refine o_bindR (o_eq (whole_int _) ?_)
      refine o_ite (fun z => nomatch z) fun _ => ?_
      refine o_bindR (o_eq (a := (row[k].2 : Int)) rfl ?_)
      refine o_nx (o_ite (fun z => absurd (of_decide_eq_true z) (by omega)) fun _ => ?_)
      refine o_bindR (o_eq (a := kw row[k].1) rfl ?_)
      refine o_bindR (o_eq (a := (row[k].2 : Int)) rfl ?_)
      refine o_bindR (o_eq (appR_nx (by omega)) ?_)
      exact o_nx ⟨c, by simp [hs]⟩
    · have hk' : k = row.length := by omega
      rw [if_neg (by simpa using c), hk', List.length_map, Nat.sub_self] at hb
      have hb' : b = x := (Option.some.inj hb).symm
      subst hb'
      simp only [badL, List.mem_cons, List.not_mem_nil, or_false] at hx
      rcases hx with rfl | rfl | rfl | rfl | rfl | rfl | rfl <;> exact (rfl : eWord w = eWord w)
  · have := hs.1
    simp at this
    omega
theorem clocks_no {d : PyData} {w : Str} (h : (isA "list" d || isA "tuple" d) = false) : f_checked_clocks (d, w) = .er (eWord w) := by
  unfold f_checked_clocks m_checked_clocks
  rw [h]
  rfl
theorem told_n {w : Str} : (clO sub_BadNumber (fun x1 => bindR (fldR x1 "BadNumber" "word") fun t9 => .rt t9) (clO sub_BadRow (fun x1 => bindR (fldR x1 "BadRow" "place") fun t10 => .rt t10) (fun x => .er x)) (eWord w) : O PyData Empty Unit) = .rt (.str w) := by simp [clO, sub_BadNumber, noEr, fldR, List.lookup]
theorem told_r {p : Int} : (clO sub_BadNumber (fun x1 => bindR (fldR x1 "BadNumber" "word") fun t9 => .rt t9) (clO sub_BadRow (fun x1 => bindR (fldR x1 "BadRow" "place") fun t10 => .rt t10) (fun x => .er x)) ⟨"BadRow", [("place", .int p)]⟩ : O PyData Empty Unit) = .rt (.int p) := by
  have hne : ¬ (Str.ofString "BadRow" = Str.ofString "BadNumber") := by decide
  simp [clO, sub_BadNumber, sub_BadRow, noEr, fldR, List.lookup, hne]
theorem word_row {n : Int} {x d m : PyData} (h : f_checked_clocks (x, "row") = .er (eWord "row")) : f_law_word (n, x, d, m) = .nx (.str "row") := by
  have e0 : f_check_timer_row x = .er (eWord "row") := by unfold f_check_timer_row m_check_timer_row; rw [h]; rfl
  have e1 : f_row_bits (x, m, d) = .er (eWord "row") := by unfold f_row_bits m_row_bits; rw [h]; rfl
  have e2 : f_normal (x, d) = .er (eWord "row") := by unfold f_normal m_normal; rw [h]; rfl
  have e3 : f_one_rule (x, d) = .er (eWord "row") := by unfold f_one_rule m_one_rule; rw [h]; rfl
  have e4 : f_rules_at x = .er (eWord "row") := by unfold f_rules_at m_rules_at; rw [h]; rfl
  have e5 : f_use (x, d, m) = .er (eWord "row") := by unfold f_use m_use; rw [h]; rfl
  obtain ⟨r, e, q⟩ := o_val (m := f_law_word (n, x, d, m)) (N := fun r => r = .str "row") (by
    refine o_fin ?_
    unfold m_law_word
    refine o_bind (o_try ?_)
    refine o_ite (fun _ => ?_) fun _ => ?_
    · refine o_bindR (o_eqE e0 ?_)
      rw [told_n]
      exact o_rt rfl
    refine o_ite (fun _ => ?_) fun _ => ?_
    · refine o_bindR (o_eqE e1 ?_)
      rw [told_n]
      exact o_rt rfl
    refine o_ite (fun _ => ?_) fun _ => ?_
    · refine o_bindR (o_eqE e2 ?_)
      rw [told_n]
      exact o_rt rfl
    refine o_ite (fun _ => ?_) fun _ => ?_
    · refine o_bindR (o_eqE e3 ?_)
      rw [told_n]
      exact o_rt rfl
    refine o_ite (fun _ => ?_) fun _ => ?_
    · refine o_bindR (o_eqE e4 ?_)
      rw [told_n]
      exact o_rt rfl
    refine o_bindR (o_eqE e5 ?_)
    rw [told_n]
    exact o_rt rfl)
  rw [e, q]
section
variable {row : List C}
theorem delay_no {d : PyData} {w : Str} (h : d = .int (-1) ∨ d = .bool true) : f_check_delay (d, w) = .er (eWord w) := by rcases h with rfl | rfl <;> rfl
theorem word_delay {n : Int} {d m : PyData} (hl : row.length ≤ 1000) (hn : n = 2 ∨ n = 3 ∨ n = 5) (hd : d = .int (-1) ∨ d = .bool true) : f_law_word (n, dT dC (row.map E), d, m) = .nx (.str "delay") := by
  have hc : ∀ w, f_checked_clocks (dT dC (row.map E), w) = .nx (row.map E) := fun w => clocks_ok (rowd_t row) hl
  have e2 : f_normal (dT dC (row.map E), d) = .er (eWord "delay") := by unfold f_normal m_normal; rw [hc, delay_no hd]; rfl
  have e3 : f_one_rule (dT dC (row.map E), d) = .er (eWord "delay") := by unfold f_one_rule m_one_rule; rw [hc, delay_no hd]; rfl
  have e5 : f_use (dT dC (row.map E), d, m) = .er (eWord "delay") := by unfold f_use m_use; rw [hc, delay_no hd]; rfl
  obtain ⟨r, e, q⟩ := o_val (m := f_law_word (n, dT dC (row.map E), d, m)) (N := fun r => r = .str "delay") (by
    refine o_fin ?_
    unfold m_law_word
    refine o_bind (o_try ?_)
    rcases hn with rfl | rfl | rfl
    · refine o_ite (fun z => absurd z (by simp)) fun _ => ?_
      refine o_ite (fun z => absurd z (by simp)) fun _ => ?_
      refine o_ite (fun _ => ?_) fun z => absurd z (by simp)
      refine o_bindR (o_eqE e2 ?_)
      rw [told_n]
      exact o_rt rfl
    · refine o_ite (fun z => absurd z (by simp)) fun _ => ?_
      refine o_ite (fun z => absurd z (by simp)) fun _ => ?_
      refine o_ite (fun z => absurd z (by simp)) fun _ => ?_
      refine o_ite (fun _ => ?_) fun z => absurd z (by simp)
      refine o_bindR (o_eqE e3 ?_)
      rw [told_n]
      exact o_rt rfl
    · refine o_ite (fun z => absurd z (by simp)) fun _ => ?_
      refine o_ite (fun z => absurd z (by simp)) fun _ => ?_
      refine o_ite (fun z => absurd z (by simp)) fun _ => ?_
      refine o_ite (fun z => absurd z (by simp)) fun _ => ?_
      refine o_ite (fun z => absurd z (by simp)) fun _ => ?_
      refine o_bindR (o_eqE e5 ?_)
      rw [told_n]
      exact o_rt rfl)
  rw [e, q]
theorem word_place {m : PyData} (hl : row.length ≤ 1000) (hm : m = .int (row.length : Int) ∨ m = .bool true) : f_law_word (5, dT dC (row.map E), .int 0, m) = .nx (.str "place") := by
  have e5 : f_use (dT dC (row.map E), .int 0, m) = .er (eWord "place") := by
    rcases hm with rfl | rfl
    · exact use_no (d := 0) (rowd_t row) hl fun k hk e => by omega
    · refine o_ers ?_
      refine o_fin ?_
      unfold m_use
      refine o_bindR (o_eq (clocks_ok (rowd_t row) hl) ?_)
      refine o_bindR (o_eq (delay_ok (n := 0)) ?_)
      refine o_bindR (o_eq (usable_ok hl) ?_)
      refine o_bind (o_for (fun _ _ => True) trivial (fun i s b hb hi => ?_) fun s hs => ?_)
      · refine o_bind (o_bindR (o_eq (a := false) rfl ?_))
        refine o_ite (fun z => nomatch z) fun _ => ?_
        exact o_nx (o_ite (fun z => nomatch z) fun _ => trivial)
      · exact o_er rfl
  obtain ⟨r, e, q⟩ := o_val (m := f_law_word (5, dT dC (row.map E), .int 0, m)) (N := fun r => r = .str "place") (by
    refine o_fin ?_
    unfold m_law_word
    refine o_bind (o_try ?_)
    refine o_ite (fun z => absurd z (by simp)) fun _ => ?_
    refine o_ite (fun z => absurd z (by simp)) fun _ => ?_
    refine o_ite (fun z => absurd z (by simp)) fun _ => ?_
    refine o_ite (fun z => absurd z (by simp)) fun _ => ?_
    refine o_ite (fun z => absurd z (by simp)) fun _ => ?_
    refine o_bindR (o_eqE e5 ?_)
    rw [told_n]
    exact o_rt rfl)
  rw [e, q]
theorem word_let : f_law_word (0, dL PyData.int ([] : List Int), .int 0, .int 0) = .nx (.str "let") := by
  have e0 : f_check_timer_row (dL PyData.int ([] : List Int)) = .nx () := rfl
  obtain ⟨r, e, q⟩ := o_val (m := f_law_word (0, dL PyData.int ([] : List Int), .int 0, .int 0)) (N := fun r => r = .str "let") (by
    refine o_fin ?_
    unfold m_law_word
    refine o_bind (o_try ?_)
    refine o_ite (fun _ => ?_) fun z => absurd z (by simp)
    refine o_bindR (o_eq e0 ?_)
    exact o_nx (o_rt rfl))
  rw [e, q]
theorem word_bits {m d v : PyData} {x : Er} (hl : row.length ≤ 1000) (hb : f_row_bits (dT dC (row.map E), m, d) = .er x) (hx : (x = eWord "delay" ∧ v = .str "delay") ∨ ∃ p : Int, x = ⟨"BadRow", [("place", .int p)]⟩ ∧ v = .int p) : f_law_word (1, dT dC (row.map E), d, m) = .nx v := by
  obtain ⟨r, e, q⟩ := o_val (m := f_law_word (1, dT dC (row.map E), d, m)) (N := fun r => r = v) (by
    refine o_fin ?_
    unfold m_law_word
    refine o_bind (o_try ?_)
    refine o_ite (fun z => absurd z (by simp)) fun _ => ?_
    refine o_ite (fun _ => ?_) fun z => absurd z (by simp)
    refine o_bindR (o_eqE hb ?_)
    rcases hx with ⟨rfl, rfl⟩ | ⟨p, rfl, rfl⟩
    · rw [told_n]
      exact o_rt rfl
    · rw [told_r]
      exact o_rt rfl)
  rw [e, q]
theorem bits_2 (hl : row.length ≤ 1000) : f_law_word (1, dT dC (row.map E), .int (-1), dP2 PyData.int PyData.int (0, 2)) = .nx (.int 1) := by
  have hc : ∀ w, f_checked_clocks (dT dC (row.map E), w) = .nx (row.map E) := fun w => clocks_ok (rowd_t row) hl
  refine word_bits hl (x := ⟨"BadRow", [("place", .int 1)]⟩) ?_ (.inr ⟨1, rfl, rfl⟩)
  unfold f_row_bits m_row_bits
  rw [hc]
  rfl
theorem bits_d (hl : row.length ≤ 1000) : f_law_word (1, dT dC (row.map E), .int (-1), dP2 PyData.int PyData.int (0, 1)) = .nx (.str "delay") := by
  have hc : ∀ w, f_checked_clocks (dT dC (row.map E), w) = .nx (row.map E) := fun w => clocks_ok (rowd_t row) hl
  have hb : f_checked_bits (dP2 PyData.int PyData.int (0, 1)) = .nx [0, 1] := row_ok (bs := [false, true]) (.inr rfl)
  refine word_bits hl (x := eWord "delay") ?_ (.inl ⟨rfl, rfl⟩)
  unfold f_row_bits m_row_bits
  simp only [hc, hb, bindR_nx]
  rfl
theorem bits_5 (hl : row.length ≤ 1000) : f_law_word (1, dT dC (row.map E), .int 0, .int 5) = .nx (.int (-1)) := by
  have hc : ∀ w, f_checked_clocks (dT dC (row.map E), w) = .nx (row.map E) := fun w => clocks_ok (rowd_t row) hl
  refine word_bits hl (x := ⟨"BadRow", [("place", .int (-1))]⟩) ?_ (.inr ⟨-1, rfl, rfl⟩)
  unfold f_row_bits m_row_bits
  rw [hc]
  rfl
theorem rowD_eq : dT dC (row.map E) = .tuple (row.map cD) := by
  unfold dT
  rw [List.map_map]
  rfl
theorem eq_word {v : PyData} {w : Str} (h : v = .str w) (hw : PyData.canLay0 (.str w) = true) : eqR v (.str w) = .nx true := by
  rw [h]
  exact eqR_self (rf_str hw) (by decide)
theorem refusals_ok (hl : row.length ≤ 900) : f_law_refusals (row.map E) = .nx true := by
  have hm : List.map (dP2 PyData.str PyData.int) (row.map E) = row.map cD := by rw [List.map_map]; rfl
  have rw_ : PyData.canLay0 (.str "row") = true := by decide +kernel
  have dw_ : PyData.canLay0 (.str "delay") = true := by decide +kernel
  obtain ⟨r, e, q⟩ := o_val (m := f_law_refusals (row.map E)) (N := fun r => r = true) (by
    refine o_fin ?_
    unfold m_law_refusals
    refine o_lt ?_
    rw [hm]
    have h1 : ∀ (f : Unit → PyData → R (Unit × Option PyData)), (∀ x, f () (.tuple [x]) = .nx ((), some (.tuple (row.map cD ++ [x])))) → lcR f (badL.map fun x => .tuple [x]) () [] = .nx ((), badL.map fun x => .tuple (row.map cD ++ [x])) := fun f hf => by
      unfold badL
      simp only [List.map_cons, List.map_nil, lcR, hf]
      rfl
    have h2 : ∀ (f : Unit → PyData → R (Unit × Option PyData)), (∀ x, f () (.tuple [x]) = .nx ((), some (.tuple (x :: row.map cD)))) → lcR f (badL.map fun x => .tuple [x]) () [] = .nx ((), badL.map fun x => .tuple (x :: row.map cD)) := fun f hf => by
      unfold badL
      simp only [List.map_cons, List.map_nil, lcR, hf]
      rfl
    refine o_bindR (o_eq (h1 _ fun x => ?_) ?_)
    · show bindR (catR (row.map cD) [x]) _ = _
      rw [catR_nx (by simp; omega)]
      show O.nx _ = _
      unfold dT
      rw [List.map_id]
    refine o_bindR (o_eq (catR_nx (by simp [badL])) ?_)
    refine o_bindR (o_eq (h2 _ fun x => ?_) ?_)
    · show bindR (catR [x] (row.map cD)) _ = _
      rw [catR_nx (by simp; omega)]
      show O.nx _ = _
      unfold dT
      rw [List.map_id]
      rfl
    refine o_bindR (o_eq (catR_nx (by simp [badL])) ?_)
    refine o_bind (o_for (fun _ _ => True) trivial (fun i s b hb _ => ?_) fun _ _ => ?_)
    · have hc : f_checked_clocks (b, "row") = .er (eWord "row") := by
        have hb' := List.mem_of_getElem? hb
        rcases List.mem_append.mp hb' with hb' | hb'
        · rcases List.mem_append.mp hb' with hb' | hb'
          · simp only [List.mem_cons, List.not_mem_nil, or_false] at hb'
            rcases hb' with rfl | rfl <;> exact clocks_no rfl
          · obtain ⟨x, hx, rfl⟩ := List.mem_map.mp hb'
            exact clocks_bad (by omega) hx
        · obtain ⟨x, hx, rfl⟩ := List.mem_map.mp hb'
          exact clocks_bad (row := []) (by simp) hx
      refine o_bindR (o_eq (rngR_nx (by omega)) ?_)
      refine o_bind (o_for (fun _ _ => True) trivial (fun i s b2 hb2 _ => ?_) fun _ _ => trivial)
      refine o_bindR (o_eq (word_row hc) ?_)
      refine o_bindR (o_eq (eqR_self (rf_str rw_) (by decide)) ?_)
      exact o_ite (fun z => nomatch z) fun _ => trivial
    · refine o_bind (o_for (fun _ _ => True) trivial (fun i s b hb _ => ?_) fun _ _ => ?_)
      · have hn : b = 2 ∨ b = 3 ∨ b = 5 := by simpa using List.mem_of_getElem? hb
        refine o_bind ?_
        refine o_bindR (o_eq (word_delay (by omega) hn (.inl rfl)) ?_)
        refine o_bindR (o_eq (eqR_self (rf_str dw_) (by decide)) ?_)
        refine o_ite (fun z => nomatch z) fun _ => ?_
        refine o_bindR (o_eq (word_delay (by omega) hn (.inr rfl)) ?_)
        refine o_bindR (o_eq (eqR_self (rf_str dw_) (by decide)) ?_)
        exact o_nx (o_ite (fun z => nomatch z) fun _ => trivial)
      · refine o_bindR (o_eq (bits_2 (by omega)) ?_)
        refine o_bindR (o_eq (bits_d (by omega)) ?_)
        refine o_bindR (o_eq (bits_5 (by omega)) ?_)
        refine o_bindR (o_eq (eqR_self (n := 1) (rf_list fun d hd => ?_) (by decide)) ?_)
        · simp only [List.mem_map, List.mem_cons, List.not_mem_nil, or_false, id_eq, exists_eq_or_imp, exists_eq_left] at hd
          rcases hd with rfl | rfl | rfl
          · exact rf_int _
          · exact rf_str dw_
          · exact rf_int _
        refine o_ite (fun z => nomatch z) fun _ => ?_
        have e1 : PyData.int (((row.map E).length : Nat) : Int) = .int (row.length : Int) := by rw [List.length_map]
        refine o_bindR (o_eq (word_place (by omega) (.inl e1)) ?_)
        refine o_bindR (o_eq (word_place (by omega) (.inr rfl)) ?_)
        refine o_bindR (o_eq word_let ?_)
        refine o_lt ?_
        have ee : eqR (dL id [PyData.str "place", .str "place", .str "let"]) (dL PyData.str ["place", "place", "let"]) = .nx true := by
          show eqR (.list [.str "place", .str "place", .str "let"]) (.list [.str "place", .str "place", .str "let"]) = _
          refine eqR_self (n := 1) (rf_list fun d hd => ?_) (by decide)
          simp only [List.mem_cons, List.not_mem_nil, or_false] at hd
          rcases hd with rfl | rfl | rfl <;> exact rf_str (by decide +kernel)
        refine o_bindR (o_eq ee ?_)
        exact o_rt rfl)
  rw [e, q]
end
end Lw

set_option Elab.async false
set_option linter.all false
set_option maxRecDepth 100000
set_option maxHeartbeats 2000000
namespace Lw
open PySem L2 Gv Rw
theorem idx_in {α : Type} {xs : List α} {i : Int} (h0 : 0 ≤ i) (h : i < xs.length) : ∃ x, idx xs i = .nx x ∧ x ∈ xs := by
  obtain ⟨k, rfl⟩ : ∃ k : Nat, i = (k : Int) := ⟨i.toNat, by omega⟩
  have hk : k < xs.length := by omega
  exact ⟨xs[k], idx_nat (List.getElem?_eq_getElem hk), List.getElem_mem hk⟩
theorem bit_of {i : Int} (h0 : 0 ≤ i) (h : i < 2) : ∃ b, i = bI b := by
  rcases (show i = 0 ∨ i = 1 by omega) with rfl | rfl
  · exact ⟨false, rfl⟩
  · exact ⟨true, rfl⟩
theorem not_bit (b : Bool) : (1 : Int) - bI b = bI (!b) := by cases b <;> rfl
/-! ### what is drawn -/
theorem law_clocks_ok {nums : List Int} (hn : Nn nums) : OutR (f_law_clocks nums) (fun r => ∃ row : List C, r.1 = row.map E ∧ row.length ≤ 8 ∧ (∀ c, c ∈ row → c.2 ≤ 60) ∧ Nn r.2) (fun _ => False) := by
  refine o_fin ?_
  unfold m_law_clocks
  refine o_bindR ((draw_ok hn (by omega)).imp (fun r1 q => ?_) fun _ q => q)
  obtain ⟨p1, n1⟩ := r1
  obtain ⟨a1, a2, a3⟩ := q
  replace a3 : Nn n1 := a3
  obtain ⟨many, e1, m1⟩ := idx_in (xs := [(1 : Int), 2, 3, 3, 4, 5, 6, 7, 8, 3, 4, 0]) a1 a2
  have hm : 0 ≤ many ∧ many ≤ 8 := by
    simp only [List.mem_cons, List.not_mem_nil, or_false] at m1
    omega
  refine o_bindR (o_eq e1 ?_)
  refine o_bindR ((draw_ok a3 (by omega)).imp (fun r3 q => ?_) fun _ q => q)
  obtain ⟨p3, n3⟩ := r3
  obtain ⟨b1, b2, b3⟩ := q
  replace b3 : Nn n3 := b3
  obtain ⟨top, e2, m2⟩ := idx_in (xs := [(5 : Int), 13, 61, 4]) b1 b2
  have ht : 0 < top ∧ top ≤ 61 := by
    simp only [List.mem_cons, List.not_mem_nil, or_false] at m2
    omega
  refine o_bindR (o_eq e2 ?_)
  refine o_bindR ((draw_ok b3 (by omega)).imp (fun r5 q => ?_) fun _ q => q)
  obtain ⟨p5, n5⟩ := r5
  obtain ⟨c1, c2, c3⟩ := q
  replace c3 : Nn n5 := c3
  refine o_lt ?_
  refine o_bindR ((draw_ok c3 (by omega)).imp (fun r7 q => ?_) fun _ q => q)
  obtain ⟨p7, n7⟩ := r7
  obtain ⟨d1, d2, d3⟩ := q
  replace d3 : Nn n7 := d3
  obtain ⟨s0, hs0⟩ := bit_of d1 d2
  refine o_lt ?_
  refine o_bindR (o_eq (rngR_nx (by omega)) ?_)
  refine o_bind (o_for (fun k (s : List Int × Int × List (Str × Int)) => Nn s.1 ∧ (∃ b, s.2.1 = bI b) ∧ ∃ row : List C, s.2.2 = row.map E ∧ row.length = k ∧ ∀ c, c ∈ row → c.2 ≤ 60) ⟨d3, ⟨s0, hs0⟩, [], rfl, rfl, fun _ h => nomatch h⟩ (fun k s b hb hs => ?_) fun s hs => ?_)
  · obtain ⟨ns, sd, rw_⟩ := s
    obtain ⟨h1, ⟨b0, h2⟩, row, h3, h4, h5⟩ := hs
    replace h1 : Nn ns := h1
    replace h2 : sd = bI b0 := h2
    replace h3 : rw_ = row.map E := h3
    subst h2
    subst h3
    refine o_bind (Out.imp (N := fun s => Nn s.1 ∧ ∃ b, s.2 = bI b) (T := fun _ => False) (B := fun _ => False) (C := fun _ => False) (E := fun _ => False) ?_ (fun s12 q => ?_) (fun _ q => q.elim) (fun _ q => q.elim) (fun _ q => q.elim) fun _ q => q)
    · refine o_ite (fun _ => ?_) fun _ => ⟨h1, b0, rfl⟩
      refine o_bindR ((draw_ok h1 (by omega)).imp (fun r q => ?_) fun _ q => q)
      exact ⟨q.2.2, bit_of q.1 q.2.1⟩
    · obtain ⟨n12, s12⟩ := s12
      obtain ⟨q1, b1, q2⟩ := q
      replace q1 : Nn n12 := q1
      replace q2 : s12 = bI b1 := q2
      subst q2
      have ek : idx [("on" : Str), ("off" : Str)] (bI b1) = .nx (kw (!b1)) := by cases b1 <;> rfl
      refine o_bindR (o_eq ek ?_)
      refine o_bindR ((draw_ok q1 ht.1).imp (fun r q => ?_) fun _ q => q)
      obtain ⟨p, n15⟩ := r
      obtain ⟨u1, u2, u3⟩ := q
      replace u3 : Nn n15 := u3
      obtain ⟨u, rfl⟩ : ∃ u : Nat, p = (u : Int) := ⟨p.toNat, by have : 0 ≤ p := u1; omega⟩
      have hu : u ≤ 60 := by have : (u : Int) < top := u2; omega
      have hk : k < 8 := by
        have l := (List.getElem?_eq_some_iff.mp hb).1
        rw [rangeL_len] at l
        omega
      refine o_bindR (o_eq (appR_nx (by rw [List.length_map]; omega)) ?_)
      refine o_lt (o_nx ⟨u3, ⟨!b1, not_bit b1⟩, row ++ [(!b1, u)], ?_, by simp [h4], fun c hc => ?_⟩)
      · rw [List.map_append]
        rfl
      · rcases List.mem_append.mp hc with hc | hc
        · exact h5 c hc
        · have : c = (!b1, u) := by simpa using hc
          subst this
          exact hu
  · obtain ⟨h1, _, row, h3, h4, h5⟩ := hs
    rw [rangeL_len] at h4
    exact o_rt ⟨row, h3, by omega, h5, h1⟩
theorem law_runs_ok {nums : List Int} (hn : Nn nums) : OutR (f_law_runs nums) (fun r => (∃ bs : List Bool, r.1 = bs.map bI ∧ bs.length ≤ 90) ∧ Nn r.2) (fun _ => False) := by
  refine o_fin ?_
  unfold m_law_runs
  refine o_lt ?_
  refine o_bindR ((draw_ok hn (by omega)).imp (fun r2 q => ?_) fun _ q => q)
  obtain ⟨p2, n2⟩ := r2
  obtain ⟨a1, a2, a3⟩ := q
  replace a3 : Nn n2 := a3
  obtain ⟨s0, hs0⟩ := bit_of a1 a2
  refine o_bindR ((draw_ok a3 (by omega)).imp (fun r3 q => ?_) fun _ q => q)
  obtain ⟨p3, n3⟩ := r3
  obtain ⟨b1, b2, b3⟩ := q
  replace b3 : Nn n3 := b3
  obtain ⟨top, e2, m2⟩ := idx_in (xs := [(4 : Int), 14, 40]) b1 b2
  have ht : 0 < top ∧ top ≤ 40 := by
    simp only [List.mem_cons, List.not_mem_nil, or_false] at m2
    omega
  refine o_bindR (o_eq e2 ?_)
  refine o_bindR ((draw_ok b3 (by omega)).imp (fun r5 q => ?_) fun _ q => q)
  obtain ⟨p5, n5⟩ := r5
  obtain ⟨c1, c2, c3⟩ := q
  replace c1 : 0 ≤ p5 := c1
  replace c2 : p5 < 12 := c2
  replace c3 : Nn n5 := c3
  refine o_bindR (o_eq (rngR_nx (by omega)) ?_)
  refine o_bind (o_for (fun k (s : List Int × List Int × Int) => Nn s.1 ∧ (∃ b, s.2.2 = bI b) ∧ ∃ bs : List Bool, s.2.1 = bs.map bI ∧ bs.length ≤ 40 * k) ⟨c3, ⟨s0, hs0⟩, [], rfl, by simp⟩ (fun k s b hb hs => ?_) fun s hs => ?_)
  · obtain ⟨ns, bits, bt⟩ := s
    obtain ⟨h1, ⟨b0, h2⟩, bs, h3, h4⟩ := hs
    replace h1 : Nn ns := h1
    replace h2 : bt = bI b0 := h2
    replace h3 : bits = bs.map bI := h3
    subst h2
    subst h3
    have hk : k < 13 := by
      have l := (List.getElem?_eq_some_iff.mp hb).1
      rw [rangeL_len] at l
      omega
    refine o_bindR ((draw_ok h1 ht.1).imp (fun r q => ?_) fun _ q => q)
    obtain ⟨p, n9⟩ := r
    obtain ⟨u1, u2, u3⟩ := q
    replace u3 : Nn n9 := u3
    obtain ⟨u, rfl⟩ : ∃ u : Nat, p = (u : Int) := ⟨p.toNat, by have : 0 ≤ p := u1; omega⟩
    have hu : u < 40 := by have : (u : Int) < top := u2; omega
    have er : repL [bI b0] ((1 : Int) + (u : Int)) = .nx ((List.replicate (1 + u) b0).map bI) := by
      unfold repL
      have e3 : ((1 : Int) + (u : Int)).toNat = 1 + u := by omega
      have e4 : ∀ n : Nat, (List.replicate n [bI b0]).flatten = (List.replicate n b0).map bI := fun n => by
        induction n with
        | zero => rfl
        | succ n ih => rw [List.replicate_succ, List.flatten_cons, ih, List.replicate_succ, List.map_cons]; rfl
      rw [e3, e4]
      exact gd_true (by simp; omega)
    refine o_bindR (o_eq er ?_)
    refine o_bindR (o_eq (catR_nx (by simp; omega)) ?_)
    refine o_lt (o_nx ⟨u3, ⟨!b0, not_bit b0⟩, bs ++ List.replicate (1 + u) b0, by rw [List.map_append], by simp; omega⟩)
  · obtain ⟨h1, _, bs, h3, h4⟩ := hs
    refine o_rt ⟨⟨bs.take 90, ?_, by simp; omega⟩, h1⟩
    have e : cutL s.2.1 none (some (90 : Int)) = s.2.1.take 90 := cut_to' 90
    show cutL s.2.1 none (some (90 : Int)) = _
    rw [e, h3, List.map_take]
theorem bits_told {bs : List Bool} {m : Int} (h : (bs.length : Int) = m) : f_law_bits_ok (bs.map bI, m) = .nx true := by
  obtain ⟨r, e, q⟩ := o_val (m := f_law_bits_ok (bs.map bI, m)) (N := fun r => r = true) (by
    refine o_fin ?_
    unfold m_law_bits_ok
    have e1 : decide ((((bs.map bI).length : Nat) : Int) = m) = true := decide_eq_true (by rw [List.length_map]; exact h)
    refine o_ite (fun z => ?_) fun _ => ?_
    · replace z : (!(isA "tuple" (dT PyData.int (bs.map bI))) || !decide ((((bs.map bI).length : Nat) : Int) = m)) = true := z
      rw [e1] at z
      exact absurd z (by simp [isA, dT])
    refine o_bind (o_for (fun _ _ => True) trivial (fun i s b hb _ => ?_) fun _ _ => o_rt rfl)
    obtain ⟨x, _, rfl⟩ := List.mem_map.mp (List.mem_of_getElem? hb)
    refine o_bind ?_
    refine o_bindR (o_eq (a := true) rfl ?_)
    refine o_ite (fun z => nomatch z) fun _ => ?_
    refine o_ite (fun z => ?_) fun _ => o_nx (o_ite (fun z => ?_) fun _ => trivial)
    · exact absurd (of_decide_eq_true z) (by cases x <;> decide)
    · exact absurd (of_decide_eq_true z) (by cases x <;> decide))
  rw [e, q]
theorem Led.trans {a b c : List C} {d e f : Nat} (h : Led a d b e) (k : Led b e c f) : Led a d c f := ⟨Nat.le_trans k.len h.len, k.inv.trans h.inv, fun x => (k.sum x).trans (h.sum x), fun bs => (k.out bs).trans (h.out bs)⟩
theorem sum_bound (k : Bool) : ∀ {row : List C}, (∀ c, c ∈ row → c.2 ≤ 60) → sumK k row ≤ 60 * row.length
  | [], _ => by simp [sumK]
  | c :: l, h => by
    have := sum_bound k fun c hc => h c (List.mem_cons_of_mem _ hc)
    have h1 := h c List.mem_cons_self
    rw [sumK_cons, List.length_cons]
    split <;> omega
theorem law_true (ns : List Int) (hl : ns.length ≤ 63) : f_law ns = .nx true := by
  obtain ⟨r, e, q⟩ := o_val (m := f_law ns) (N := fun r => r = true) (by
    refine o_fin ?_
    unfold m_law
    obtain ⟨nums, en, hn⟩ := numbers_ok hl
    refine o_bindR (o_eq en ?_)
    refine o_bindR ((law_clocks_ok hn).imp (fun r2 q => ?_) fun _ q => q)
    obtain ⟨rw0, n2⟩ := r2
    obtain ⟨row0, q1, hr8, hc60, q2⟩ := q
    replace q1 : rw0 = row0.map E := q1
    replace q2 : Nn n2 := q2
    subst q1
    refine o_bindR ((draw_ok q2 (by omega)).imp (fun r3 q => ?_) fun _ q => q)
    obtain ⟨p3, n3⟩ := r3
    obtain ⟨a1, a2, a3⟩ := q
    replace a1 : 0 ≤ p3 := a1
    replace a2 : p3 < 21 := a2
    replace a3 : Nn n3 := a3
    refine o_bindR ((draw_ok a3 (by omega)).imp (fun r4 q => ?_) fun _ q => q)
    obtain ⟨p4, n4⟩ := r4
    obtain ⟨b1, b2, b3⟩ := q
    replace b3 : Nn n4 := b3
    obtain ⟨dl, e5, m5⟩ := idx_in (xs := [(0 : Int), 0, 3, p3]) b1 b2
    have hd : 0 ≤ dl ∧ dl ≤ 20 := by
      simp only [List.mem_cons, List.not_mem_nil, or_false] at m5
      omega
    obtain ⟨d0, rfl⟩ : ∃ d : Nat, dl = (d : Int) := ⟨dl.toNat, by omega⟩
    refine o_bindR (o_eq e5 ?_)
    refine o_bindR ((law_runs_ok b3).imp (fun r6 q => ?_) fun _ q => q)
    obtain ⟨bits, n6⟩ := r6
    obtain ⟨⟨bs, q1, hb90⟩, q6⟩ := q
    replace q1 : bits = bs.map bI := q1
    replace q6 : Nn n6 := q6
    subst q1
    refine o_bindR (o_eq (law_out_ok (by omega) (by omega)) ?_)
    refine o_bindR (o_eq (sums_ok (by omega)) ?_)
    refine o_lt ?_
    refine o_bindR (o_eq (rngR_nx (by omega)) ?_)
    refine o_bind (Out.imp (N := fun s => (∃ (row : List C) (d : Nat), s.2.1 = row.map E ∧ s.2.2.1 = (d : Int) ∧ Led row0 d0 row d ∧ Nf row) ∧ s.2.2.2[0]? = some (row0.map E, (d0 : Int)) ∧ ∀ w, w ∈ s.2.2.2 → ∃ (rw_ : List C) (dw : Nat), w = (rw_.map E, (dw : Int)) ∧ Led row0 d0 rw_ dw) (o_for (fun k (s : List Int × List (Str × Int) × Int × List (List (Str × Int) × Int)) => Nn s.1 ∧ (∃ (row : List C) (d : Nat), s.2.1 = row.map E ∧ s.2.2.1 = (d : Int) ∧ Led row0 d0 row d ∧ row.length + k ≤ 8) ∧ s.2.2.2.length = k + 1 ∧ s.2.2.2[0]? = some (row0.map E, (d0 : Int)) ∧ ∀ w, w ∈ s.2.2.2 → ∃ (rw_ : List C) (dw : Nat), w = (rw_.map E, (dw : Int)) ∧ Led row0 d0 rw_ dw)
      ⟨q6, ⟨row0, d0, rfl, rfl, .refl _ _, by omega⟩, rfl, rfl, fun w hw => ⟨row0, d0, by simpa using hw, .refl _ _⟩⟩ (fun k s b hb hs => ?_) (fun s hs => ?_)) (fun s hs => ?_) (fun _ q => q) (fun _ q => q) (fun _ q => q) fun _ q => q)
    · obtain ⟨ns_, rw_, dd, way⟩ := s
      obtain ⟨h1, ⟨row, d, h2, h3, led, h5⟩, h6, h7, h8⟩ := hs
      replace h1 : Nn ns_ := h1
      replace h2 : rw_ = row.map E := h2
      replace h3 : dd = (d : Int) := h3
      replace h6 : way.length = k + 1 := h6
      replace h7 : way[0]? = some (row0.map E, (d0 : Int)) := h7
      replace h8 : ∀ w, w ∈ way → ∃ (rw_ : List C) (dw : Nat), w = (rw_.map E, (dw : Int)) ∧ Led row0 d0 rw_ dw := h8
      subst h2
      subst h3
      have hl' : row.length ≤ 1000 := by omega
      have hd' : d ≤ 1000 := by
        have s1 := led.sum true
        have s2 := sum_bound true hc60
        omega
      refine o_bindR (o_eq (law_rules_ok hl') ?_)
      refine o_bindR (o_eq (turn_ok hl') ?_)
      refine o_ite (fun z => nomatch z) fun _ => ?_
      refine o_bindR (o_eq (listed_ok hl') ?_)
      refine o_bindR (o_eq (row_bits_ok (rowd_l row) hl' (.inl rfl) (by omega)) ?_)
      refine o_bind ?_
      refine o_bindR (o_eq (bits_told (by rw [outS_len, List.length_map])) ?_)
      refine o_ite (fun z => nomatch z) fun _ => ?_
      refine o_ite (fun z => absurd z (by rw [led.out bs]; simp)) fun _ => ?_
      refine o_bindR (o_eq (law_out_ok hd' (by omega)) ?_)
      refine o_nx (o_ite (fun z => absurd z (by rw [led.out bs]; simp)) fun _ => ?_)
      refine o_bindR (o_eq (sums_ok hl') ?_)
      refine o_ite (fun z => absurd z (by rw [led.sum true, led.sum false]; simp)) fun _ => ?_
      refine o_ite (fun z => ?_) fun z => ?_
      · have z' : ((rules row).length : Int) = 0 := of_decide_eq_true z
        have hnil : rules row = [] := List.eq_nil_of_length_eq_zero (by omega)
        exact ⟨⟨row, d, rfl, rfl, led, rules_nil.mp hnil⟩, h7, h8⟩
      · have z' : ¬ ((rules row).length : Int) = 0 := of_decide_eq_false z
        refine o_bindR ((draw_ok h1 (by omega)).imp (fun r21 q => ?_) fun _ q => q)
        obtain ⟨p21, n21⟩ := r21
        obtain ⟨u1, u2, u3⟩ := q
        replace u3 : Nn n21 := u3
        obtain ⟨pr, e22, m22⟩ := idx_in u1 u2
        obtain ⟨j, hj, rfl, hr⟩ := mem_rules.mp m22
        refine o_bindR (o_eq e22 ?_)
        refine o_lt ?_
        refine o_bindR (o_eq (behind_ok hl' hj hr) ?_)
        have hlen := beh_len hr
        refine o_ite (fun z => absurd (of_decide_eq_true z) (by simp only [List.length_map]; omega)) fun _ => ?_
        have hk12 : k < 12 := by
          have l := (List.getElem?_eq_some_iff.mp hb).1
          rw [rangeL_len] at l
          omega
        refine o_bindR (o_eq (appR_nx (by show way.length < 1000000; omega)) ?_)
        refine o_nx ⟨u3, ⟨(beh row j).1, d + (beh row j).2, rfl, rfl, led.step hr, by omega⟩, by simp [h6], ?_, fun w hw => ?_⟩
        · show (way ++ _)[0]? = _
          rw [List.getElem?_append_left (by omega)]
          exact h7
        · rcases List.mem_append.mp hw with hw | hw
          · exact h8 w hw
          · exact ⟨(beh row j).1, d + (beh row j).2, by simpa using hw, led.step hr⟩
    · obtain ⟨_, ⟨row, d, _, _, _, h5⟩, _⟩ := hs
      rw [rangeL_len] at h5
      omega
    · obtain ⟨ns_, rw_, dd, way⟩ := s
      obtain ⟨⟨row, d, h2, h3, led, nf⟩, h7, h8⟩ := hs
      replace h2 : rw_ = row.map E := h2
      replace h3 : dd = (d : Int) := h3
      replace h7 : way[0]? = some (row0.map E, (d0 : Int)) := h7
      replace h8 : ∀ w, w ∈ way → ∃ (rw_ : List C) (dw : Nat), w = (rw_.map E, (dw : Int)) ∧ Led row0 d0 rw_ dw := h8
      subst h2
      subst h3
      have e0 : idx way (0 : Int) = .nx (row0.map E, (d0 : Int)) := idx_nat (k := 0) h7
      refine o_bind (o_for (fun _ _ => True) trivial (fun i s b hb _ => ?_) fun _ _ => ?_)
      · obtain ⟨rw_, dw, rfl, lw⟩ := h8 b (List.mem_of_getElem? hb)
        have hlw : rw_.length ≤ 1000 := by have := lw.len; omega
        refine o_bindR (o_eq (listed_ok hlw) ?_)
        obtain ⟨row', d', en, nf', led'⟩ := normal_ok (d := dw) (rowd_l rw_) hlw
        obtain ⟨rfl, rfl⟩ := led_uniq (lw.trans led') led nf' nf
        refine o_bindR (o_eq en ?_)
        refine o_bindR (o_eq pair_told ?_)
        exact o_ite (fun z => nomatch z) fun _ => trivial
      · refine o_bind ?_
        refine o_bindR (o_eq e0 ?_)
        have last : Out (bindR (idx way (0 : Int)) fun t36 => bindR (f_law_refusals t36.1) fun r37 => (.rt r37 : O Bool Empty Empty)) (fun a => OutR (Empty.elim a) (fun r => r = true) fun _ => False) (fun r => r = true) (fun _ => True) (fun _ => True) (fun _ => False) := by
          refine o_bindR (o_eq e0 ?_)
          refine o_bindR (o_eq (refusals_ok (by omega)) ?_)
          exact o_rt rfl
        refine o_ite (fun z => ?_) fun _ => o_nx (o_ite (fun z => nomatch z) fun _ => last)
        have z' : (d0 : Int) = 0 := of_decide_eq_true z
        have hd0 : d0 = 0 := by omega
        subst hd0
        refine o_bindR (o_eq e0 ?_)
        obtain ⟨row', d', en, nf', led'⟩ := normal_ok (d := 0) (rowd_t row0) (by omega)
        obtain ⟨rfl, rfl⟩ := led_uniq led' led nf' nf
        refine o_bindR (o_eq en ?_)
        refine o_bindR (o_eq (eqR_self (rf_rd row' d') (by decide)) ?_)
        exact o_nx (o_ite (fun z => nomatch z) fun _ => last))
  rw [e, q]
end Lw

set_option Elab.async false
set_option linter.all false
set_option maxRecDepth 100000
set_option maxHeartbeats 4000000
namespace Lw
open PySem L2 Gv PyProof.Rows
theorem all_mk (hlaw : ∀ ns : List Int, ns.length ≤ 63 → f_law ns = .nx true) {l : PySem.W.OpenLaw} {w : World} {K : PySem.W.Frag} {h : Heap} {mg : Str → Option Value} {fa f_is_whole f_whole_in f_is_bit f_check_row f_checked_bits f_delayed f_checked_clocks f_check_timer_row f_check_delay f_through_clock f_row_bits f_rule_here f_usable_rules f_first_rule f_ruled f_normal_clocks f_normal f_one_rule f_rules_at f_use f_law_numbers f_law_draw f_law_int f_law_bits_ok f_law_clocks f_law_runs f_law_out f_law_rule f_law_rules f_law_behind f_law_sums f_law_pair_told f_law_first f_law_listed f_law_turn f_law_word f_law_refusals f_law c_BadNumber i_BadNumber c_BadRow i_BadRow : Addr} (X : K.In h) (G : h.Ns mainGlobals mg) (hfa : mg "law" = some (.ref fa))
    {od_is_whole an_is_whole od_whole_in an_whole_in od_is_bit an_is_bit od_check_row an_check_row od_checked_bits an_checked_bits od_delayed an_delayed od_checked_clocks an_checked_clocks od_check_timer_row an_check_timer_row od_check_delay an_check_delay od_through_clock an_through_clock od_row_bits an_row_bits od_rule_here an_rule_here od_usable_rules an_usable_rules od_first_rule an_first_rule od_ruled an_ruled od_normal_clocks an_normal_clocks od_normal an_normal od_one_rule an_one_rule od_rules_at an_rules_at od_use an_use od_law_numbers an_law_numbers od_law_draw an_law_draw od_law_int an_law_int od_law_bits_ok an_law_bits_ok od_law_clocks an_law_clocks od_law_runs an_law_runs od_law_out an_law_out od_law_rule an_law_rule od_law_rules an_law_rules od_law_behind an_law_behind od_law_sums an_law_sums od_law_pair_told an_law_pair_told od_law_first an_law_first od_law_listed an_law_listed od_law_turn an_law_turn od_law_word an_law_word od_law_refusals an_law_refusals od_law an_law od_IBadNumber an_IBadNumber od_IBadRow an_IBadRow : Option Addr} {sl_is_whole sl_whole_in sl_is_bit sl_check_row sl_checked_bits sl_delayed sl_checked_clocks sl_check_timer_row sl_check_delay sl_through_clock sl_row_bits sl_rule_here sl_usable_rules sl_first_rule sl_ruled sl_normal_clocks sl_normal sl_one_rule sl_rules_at sl_use sl_law_numbers sl_law_draw sl_law_int sl_law_bits_ok sl_law_clocks sl_law_runs sl_law_out sl_law_rule sl_law_rules sl_law_behind sl_law_sums sl_law_pair_told sl_law_first sl_law_listed sl_law_turn sl_law_word sl_law_refusals sl_law sl_IBadNumber sl_IBadRow : Array (Option Value)} {oc_is_whole kV_is_whole dc_is_whole pm_is_whole cd_is_whole ct_is_whole oc_whole_in kV_whole_in dc_whole_in pm_whole_in cd_whole_in ct_whole_in oc_is_bit kV_is_bit dc_is_bit pm_is_bit cd_is_bit ct_is_bit oc_check_row kV_check_row dc_check_row pm_check_row cd_check_row ct_check_row oc_checked_bits kV_checked_bits dc_checked_bits pm_checked_bits cd_checked_bits ct_checked_bits oc_delayed kV_delayed dc_delayed pm_delayed cd_delayed ct_delayed oc_checked_clocks kV_checked_clocks dc_checked_clocks pm_checked_clocks cd_checked_clocks ct_checked_clocks oc_check_timer_row kV_check_timer_row dc_check_timer_row pm_check_timer_row cd_check_timer_row ct_check_timer_row oc_check_delay kV_check_delay dc_check_delay pm_check_delay cd_check_delay ct_check_delay oc_through_clock kV_through_clock dc_through_clock pm_through_clock cd_through_clock ct_through_clock oc_row_bits kV_row_bits dc_row_bits pm_row_bits cd_row_bits ct_row_bits oc_rule_here kV_rule_here dc_rule_here pm_rule_here cd_rule_here ct_rule_here oc_usable_rules kV_usable_rules dc_usable_rules pm_usable_rules cd_usable_rules ct_usable_rules oc_first_rule kV_first_rule dc_first_rule pm_first_rule cd_first_rule ct_first_rule oc_ruled kV_ruled dc_ruled pm_ruled cd_ruled ct_ruled oc_normal_clocks kV_normal_clocks dc_normal_clocks pm_normal_clocks cd_normal_clocks ct_normal_clocks oc_normal dc_normal pm_normal cd_normal ct_normal oc_one_rule kV_one_rule dc_one_rule pm_one_rule cd_one_rule ct_one_rule oc_rules_at kV_rules_at dc_rules_at pm_rules_at cd_rules_at ct_rules_at oc_use kV_use dc_use pm_use cd_use ct_use oc_law_numbers kV_law_numbers dc_law_numbers pm_law_numbers cd_law_numbers ct_law_numbers oc_law_draw kV_law_draw dc_law_draw pm_law_draw cd_law_draw ct_law_draw oc_law_int kV_law_int dc_law_int pm_law_int cd_law_int ct_law_int oc_law_bits_ok kV_law_bits_ok dc_law_bits_ok pm_law_bits_ok cd_law_bits_ok ct_law_bits_ok oc_law_clocks kV_law_clocks dc_law_clocks pm_law_clocks cd_law_clocks ct_law_clocks oc_law_runs kV_law_runs dc_law_runs pm_law_runs cd_law_runs ct_law_runs oc_law_out kV_law_out dc_law_out pm_law_out cd_law_out ct_law_out oc_law_rule kV_law_rule dc_law_rule pm_law_rule cd_law_rule ct_law_rule oc_law_rules kV_law_rules dc_law_rules pm_law_rules cd_law_rules ct_law_rules oc_law_behind kV_law_behind dc_law_behind pm_law_behind cd_law_behind ct_law_behind oc_law_sums kV_law_sums dc_law_sums pm_law_sums cd_law_sums ct_law_sums oc_law_pair_told kV_law_pair_told dc_law_pair_told pm_law_pair_told cd_law_pair_told ct_law_pair_told oc_law_first kV_law_first dc_law_first pm_law_first cd_law_first ct_law_first oc_law_listed kV_law_listed dc_law_listed pm_law_listed cd_law_listed ct_law_listed oc_law_turn kV_law_turn dc_law_turn pm_law_turn cd_law_turn ct_law_turn oc_law_word kV_law_word dc_law_word pm_law_word cd_law_word ct_law_word oc_law_refusals kV_law_refusals dc_law_refusals pm_law_refusals cd_law_refusals ct_law_refusals oc_law kV_law dc_law pm_law cd_law ct_law oc_IBadNumber kV_IBadNumber dc_IBadNumber pm_IBadNumber cd_IBadNumber ct_IBadNumber oc_IBadRow kV_IBadRow dc_IBadRow pm_IBadRow cd_IBadRow ct_IBadRow : Value}
    {kd_normal : Addr} {tkd_normal_delay : Tok}
    {t_ROW_KINDS : Addr} {dt_ROW_KINDS : Option Addr} {nt_ROW_KINDS : Nat} {slt_ROW_KINDS : Array (Option Value)} {tkt_ROW_KINDS0 tkt_ROW_KINDS1 : Tok}
    {nm_BadNumber qn_BadNumber : Str} {ns_BadNumber b0_BadNumber : Addr} {bs_BadNumber : List Value} {sn_BadNumber : List Str} {sb_BadNumber : List Value} {ab_BadNumber : Bool} {col_BadNumber : Option Bool} {dd_BadNumber : Option Addr} {m0_BadNumber m1_BadNumber m2_BadNumber m3_BadNumber m5_BadNumber : Option Value}
    {nm_BadRow qn_BadRow : Str} {ns_BadRow b0_BadRow : Addr} {bs_BadRow : List Value} {sn_BadRow : List Str} {sb_BadRow : List Value} {ab_BadRow : Bool} {col_BadRow : Option Bool} {dd_BadRow : Option Addr} {m0_BadRow m1_BadRow m2_BadRow m3_BadRow m5_BadRow : Option Value}
    (z_bool : PySem.W.nsIn K mainGlobals "bool" = some none)
    (z_enumerate : PySem.W.nsIn K mainGlobals "enumerate" = some none)
    (z_int : PySem.W.nsIn K mainGlobals "int" = some none)
    (z_isinstance : PySem.W.nsIn K mainGlobals "isinstance" = some none)
    (z_len : PySem.W.nsIn K mainGlobals "len" = some none)
    (z_list : PySem.W.nsIn K mainGlobals "list" = some none)
    (z_min : PySem.W.nsIn K mainGlobals "min" = some none)
    (z_range : PySem.W.nsIn K mainGlobals "range" = some none)
    (z_str : PySem.W.nsIn K mainGlobals "str" = some none)
    (z_sum : PySem.W.nsIn K mainGlobals "sum" = some none)
    (z_tuple : PySem.W.nsIn K mainGlobals "tuple" = some none)
    (k_ROW_KINDS : PySem.W.nsIn K mainGlobals "ROW_KINDS" = some (some (.ref t_ROW_KINDS)))
    (lt_ROW_KINDS : K.lookup t_ROW_KINDS = some ⟨.type "tuple", dt_ROW_KINDS, .seq #[.str "on" tkt_ROW_KINDS0, .str "off" tkt_ROW_KINDS1] nt_ROW_KINDS, slt_ROW_KINDS⟩)
    (a_is_whole : PySem.W.nsIn K mainGlobals "_is_whole" = some (some (.ref f_is_whole)))
    (l_is_whole : K.lookup f_is_whole = some ⟨oc_is_whole, od_is_whole, .func (PySem.W.fnOf "_is_whole" "_is_whole" (defArgs st_is_whole) (defBody st_is_whole) (defScope st_is_whole) .none kV_is_whole dc_is_whole pm_is_whole an_is_whole cd_is_whole ct_is_whole), sl_is_whole⟩)
    (q_is_whole : PySem.W.codeIn K cd_is_whole "_is_whole" = true)
    (p_is_whole : PySem.W.keepIn K (.ref f_is_whole) = true)
    (a_whole_in : PySem.W.nsIn K mainGlobals "_whole_in" = some (some (.ref f_whole_in)))
    (l_whole_in : K.lookup f_whole_in = some ⟨oc_whole_in, od_whole_in, .func (PySem.W.fnOf "_whole_in" "_whole_in" (defArgs st_whole_in) (defBody st_whole_in) (defScope st_whole_in) .none kV_whole_in dc_whole_in pm_whole_in an_whole_in cd_whole_in ct_whole_in), sl_whole_in⟩)
    (q_whole_in : PySem.W.codeIn K cd_whole_in "_whole_in" = true)
    (p_whole_in : PySem.W.keepIn K (.ref f_whole_in) = true)
    (a_is_bit : PySem.W.nsIn K mainGlobals "is_bit" = some (some (.ref f_is_bit)))
    (l_is_bit : K.lookup f_is_bit = some ⟨oc_is_bit, od_is_bit, .func (PySem.W.fnOf "is_bit" "is_bit" (defArgs st_is_bit) (defBody st_is_bit) (defScope st_is_bit) .none kV_is_bit dc_is_bit pm_is_bit an_is_bit cd_is_bit ct_is_bit), sl_is_bit⟩)
    (q_is_bit : PySem.W.codeIn K cd_is_bit "is_bit" = true)
    (p_is_bit : PySem.W.keepIn K (.ref f_is_bit) = true)
    (a_check_row : PySem.W.nsIn K mainGlobals "check_row" = some (some (.ref f_check_row)))
    (l_check_row : K.lookup f_check_row = some ⟨oc_check_row, od_check_row, .func (PySem.W.fnOf "check_row" "check_row" (defArgs st_check_row) (defBody st_check_row) (defScope st_check_row) .none kV_check_row dc_check_row pm_check_row an_check_row cd_check_row ct_check_row), sl_check_row⟩)
    (q_check_row : PySem.W.codeIn K cd_check_row "check_row" = true)
    (p_check_row : PySem.W.keepIn K (.ref f_check_row) = true)
    (a_checked_bits : PySem.W.nsIn K mainGlobals "_checked_bits" = some (some (.ref f_checked_bits)))
    (l_checked_bits : K.lookup f_checked_bits = some ⟨oc_checked_bits, od_checked_bits, .func (PySem.W.fnOf "_checked_bits" "_checked_bits" (defArgs st_checked_bits) (defBody st_checked_bits) (defScope st_checked_bits) .none kV_checked_bits dc_checked_bits pm_checked_bits an_checked_bits cd_checked_bits ct_checked_bits), sl_checked_bits⟩)
    (q_checked_bits : PySem.W.codeIn K cd_checked_bits "_checked_bits" = true)
    (p_checked_bits : PySem.W.keepIn K (.ref f_checked_bits) = true)
    (a_delayed : PySem.W.nsIn K mainGlobals "delayed" = some (some (.ref f_delayed)))
    (l_delayed : K.lookup f_delayed = some ⟨oc_delayed, od_delayed, .func (PySem.W.fnOf "delayed" "delayed" (defArgs st_delayed) (defBody st_delayed) (defScope st_delayed) .none kV_delayed dc_delayed pm_delayed an_delayed cd_delayed ct_delayed), sl_delayed⟩)
    (q_delayed : PySem.W.codeIn K cd_delayed "delayed" = true)
    (p_delayed : PySem.W.keepIn K (.ref f_delayed) = true)
    (a_checked_clocks : PySem.W.nsIn K mainGlobals "_checked_clocks" = some (some (.ref f_checked_clocks)))
    (l_checked_clocks : K.lookup f_checked_clocks = some ⟨oc_checked_clocks, od_checked_clocks, .func (PySem.W.fnOf "_checked_clocks" "_checked_clocks" (defArgs st_checked_clocks) (defBody st_checked_clocks) (defScope st_checked_clocks) .none kV_checked_clocks dc_checked_clocks pm_checked_clocks an_checked_clocks cd_checked_clocks ct_checked_clocks), sl_checked_clocks⟩)
    (q_checked_clocks : PySem.W.codeIn K cd_checked_clocks "_checked_clocks" = true)
    (p_checked_clocks : PySem.W.keepIn K (.ref f_checked_clocks) = true)
    (a_check_timer_row : PySem.W.nsIn K mainGlobals "check_timer_row" = some (some (.ref f_check_timer_row)))
    (l_check_timer_row : K.lookup f_check_timer_row = some ⟨oc_check_timer_row, od_check_timer_row, .func (PySem.W.fnOf "check_timer_row" "check_timer_row" (defArgs st_check_timer_row) (defBody st_check_timer_row) (defScope st_check_timer_row) .none kV_check_timer_row dc_check_timer_row pm_check_timer_row an_check_timer_row cd_check_timer_row ct_check_timer_row), sl_check_timer_row⟩)
    (q_check_timer_row : PySem.W.codeIn K cd_check_timer_row "check_timer_row" = true)
    (p_check_timer_row : PySem.W.keepIn K (.ref f_check_timer_row) = true)
    (a_check_delay : PySem.W.nsIn K mainGlobals "_check_delay" = some (some (.ref f_check_delay)))
    (l_check_delay : K.lookup f_check_delay = some ⟨oc_check_delay, od_check_delay, .func (PySem.W.fnOf "_check_delay" "_check_delay" (defArgs st_check_delay) (defBody st_check_delay) (defScope st_check_delay) .none kV_check_delay dc_check_delay pm_check_delay an_check_delay cd_check_delay ct_check_delay), sl_check_delay⟩)
    (q_check_delay : PySem.W.codeIn K cd_check_delay "_check_delay" = true)
    (p_check_delay : PySem.W.keepIn K (.ref f_check_delay) = true)
    (a_through_clock : PySem.W.nsIn K mainGlobals "_through_clock" = some (some (.ref f_through_clock)))
    (l_through_clock : K.lookup f_through_clock = some ⟨oc_through_clock, od_through_clock, .func (PySem.W.fnOf "_through_clock" "_through_clock" (defArgs st_through_clock) (defBody st_through_clock) (defScope st_through_clock) .none kV_through_clock dc_through_clock pm_through_clock an_through_clock cd_through_clock ct_through_clock), sl_through_clock⟩)
    (q_through_clock : PySem.W.codeIn K cd_through_clock "_through_clock" = true)
    (p_through_clock : PySem.W.keepIn K (.ref f_through_clock) = true)
    (a_row_bits : PySem.W.nsIn K mainGlobals "row_bits" = some (some (.ref f_row_bits)))
    (l_row_bits : K.lookup f_row_bits = some ⟨oc_row_bits, od_row_bits, .func (PySem.W.fnOf "row_bits" "row_bits" (defArgs st_row_bits) (defBody st_row_bits) (defScope st_row_bits) .none kV_row_bits dc_row_bits pm_row_bits an_row_bits cd_row_bits ct_row_bits), sl_row_bits⟩)
    (q_row_bits : PySem.W.codeIn K cd_row_bits "row_bits" = true)
    (p_row_bits : PySem.W.keepIn K (.ref f_row_bits) = true)
    (a_rule_here : PySem.W.nsIn K mainGlobals "_rule_here" = some (some (.ref f_rule_here)))
    (l_rule_here : K.lookup f_rule_here = some ⟨oc_rule_here, od_rule_here, .func (PySem.W.fnOf "_rule_here" "_rule_here" (defArgs st_rule_here) (defBody st_rule_here) (defScope st_rule_here) .none kV_rule_here dc_rule_here pm_rule_here an_rule_here cd_rule_here ct_rule_here), sl_rule_here⟩)
    (q_rule_here : PySem.W.codeIn K cd_rule_here "_rule_here" = true)
    (p_rule_here : PySem.W.keepIn K (.ref f_rule_here) = true)
    (a_usable_rules : PySem.W.nsIn K mainGlobals "_usable_rules" = some (some (.ref f_usable_rules)))
    (l_usable_rules : K.lookup f_usable_rules = some ⟨oc_usable_rules, od_usable_rules, .func (PySem.W.fnOf "_usable_rules" "_usable_rules" (defArgs st_usable_rules) (defBody st_usable_rules) (defScope st_usable_rules) .none kV_usable_rules dc_usable_rules pm_usable_rules an_usable_rules cd_usable_rules ct_usable_rules), sl_usable_rules⟩)
    (q_usable_rules : PySem.W.codeIn K cd_usable_rules "_usable_rules" = true)
    (p_usable_rules : PySem.W.keepIn K (.ref f_usable_rules) = true)
    (a_first_rule : PySem.W.nsIn K mainGlobals "_first_rule" = some (some (.ref f_first_rule)))
    (l_first_rule : K.lookup f_first_rule = some ⟨oc_first_rule, od_first_rule, .func (PySem.W.fnOf "_first_rule" "_first_rule" (defArgs st_first_rule) (defBody st_first_rule) (defScope st_first_rule) .none kV_first_rule dc_first_rule pm_first_rule an_first_rule cd_first_rule ct_first_rule), sl_first_rule⟩)
    (q_first_rule : PySem.W.codeIn K cd_first_rule "_first_rule" = true)
    (p_first_rule : PySem.W.keepIn K (.ref f_first_rule) = true)
    (a_ruled : PySem.W.nsIn K mainGlobals "_ruled" = some (some (.ref f_ruled)))
    (l_ruled : K.lookup f_ruled = some ⟨oc_ruled, od_ruled, .func (PySem.W.fnOf "_ruled" "_ruled" (defArgs st_ruled) (defBody st_ruled) (defScope st_ruled) .none kV_ruled dc_ruled pm_ruled an_ruled cd_ruled ct_ruled), sl_ruled⟩)
    (q_ruled : PySem.W.codeIn K cd_ruled "_ruled" = true)
    (p_ruled : PySem.W.keepIn K (.ref f_ruled) = true)
    (a_normal_clocks : PySem.W.nsIn K mainGlobals "_normal_clocks" = some (some (.ref f_normal_clocks)))
    (l_normal_clocks : K.lookup f_normal_clocks = some ⟨oc_normal_clocks, od_normal_clocks, .func (PySem.W.fnOf "_normal_clocks" "_normal_clocks" (defArgs st_normal_clocks) (defBody st_normal_clocks) (defScope st_normal_clocks) .none kV_normal_clocks dc_normal_clocks pm_normal_clocks an_normal_clocks cd_normal_clocks ct_normal_clocks), sl_normal_clocks⟩)
    (q_normal_clocks : PySem.W.codeIn K cd_normal_clocks "_normal_clocks" = true)
    (p_normal_clocks : PySem.W.keepIn K (.ref f_normal_clocks) = true)
    (a_normal : PySem.W.nsIn K mainGlobals "normal" = some (some (.ref f_normal)))
    (l_normal : K.lookup f_normal = some ⟨oc_normal, od_normal, .func (PySem.W.fnOf "normal" "normal" (defArgs st_normal) (defBody st_normal) (defScope st_normal) .none (.ref kd_normal) dc_normal pm_normal an_normal cd_normal ct_normal), sl_normal⟩)
    (q_normal : PySem.W.codeIn K cd_normal "normal" = true)
    (p_normal : PySem.W.keepIn K (.ref f_normal) = true)
    (kn_normal_delay : PySem.W.nsIn K kd_normal "delay" = some (some (.int 0 tkd_normal_delay)))
    (a_one_rule : PySem.W.nsIn K mainGlobals "one_rule" = some (some (.ref f_one_rule)))
    (l_one_rule : K.lookup f_one_rule = some ⟨oc_one_rule, od_one_rule, .func (PySem.W.fnOf "one_rule" "one_rule" (defArgs st_one_rule) (defBody st_one_rule) (defScope st_one_rule) .none kV_one_rule dc_one_rule pm_one_rule an_one_rule cd_one_rule ct_one_rule), sl_one_rule⟩)
    (q_one_rule : PySem.W.codeIn K cd_one_rule "one_rule" = true)
    (p_one_rule : PySem.W.keepIn K (.ref f_one_rule) = true)
    (a_rules_at : PySem.W.nsIn K mainGlobals "rules_at" = some (some (.ref f_rules_at)))
    (l_rules_at : K.lookup f_rules_at = some ⟨oc_rules_at, od_rules_at, .func (PySem.W.fnOf "rules_at" "rules_at" (defArgs st_rules_at) (defBody st_rules_at) (defScope st_rules_at) .none kV_rules_at dc_rules_at pm_rules_at an_rules_at cd_rules_at ct_rules_at), sl_rules_at⟩)
    (q_rules_at : PySem.W.codeIn K cd_rules_at "rules_at" = true)
    (p_rules_at : PySem.W.keepIn K (.ref f_rules_at) = true)
    (a_use : PySem.W.nsIn K mainGlobals "use" = some (some (.ref f_use)))
    (l_use : K.lookup f_use = some ⟨oc_use, od_use, .func (PySem.W.fnOf "use" "use" (defArgs st_use) (defBody st_use) (defScope st_use) .none kV_use dc_use pm_use an_use cd_use ct_use), sl_use⟩)
    (q_use : PySem.W.codeIn K cd_use "use" = true)
    (p_use : PySem.W.keepIn K (.ref f_use) = true)
    (a_law_numbers : PySem.W.nsIn K mainGlobals "_law_numbers" = some (some (.ref f_law_numbers)))
    (l_law_numbers : K.lookup f_law_numbers = some ⟨oc_law_numbers, od_law_numbers, .func (PySem.W.fnOf "_law_numbers" "_law_numbers" (defArgs st_law_numbers) (defBody st_law_numbers) (defScope st_law_numbers) .none kV_law_numbers dc_law_numbers pm_law_numbers an_law_numbers cd_law_numbers ct_law_numbers), sl_law_numbers⟩)
    (q_law_numbers : PySem.W.codeIn K cd_law_numbers "_law_numbers" = true)
    (p_law_numbers : PySem.W.keepIn K (.ref f_law_numbers) = true)
    (a_law_draw : PySem.W.nsIn K mainGlobals "_law_draw" = some (some (.ref f_law_draw)))
    (l_law_draw : K.lookup f_law_draw = some ⟨oc_law_draw, od_law_draw, .func (PySem.W.fnOf "_law_draw" "_law_draw" (defArgs st_law_draw) (defBody st_law_draw) (defScope st_law_draw) .none kV_law_draw dc_law_draw pm_law_draw an_law_draw cd_law_draw ct_law_draw), sl_law_draw⟩)
    (q_law_draw : PySem.W.codeIn K cd_law_draw "_law_draw" = true)
    (p_law_draw : PySem.W.keepIn K (.ref f_law_draw) = true)
    (a_law_int : PySem.W.nsIn K mainGlobals "_law_int" = some (some (.ref f_law_int)))
    (l_law_int : K.lookup f_law_int = some ⟨oc_law_int, od_law_int, .func (PySem.W.fnOf "_law_int" "_law_int" (defArgs st_law_int) (defBody st_law_int) (defScope st_law_int) .none kV_law_int dc_law_int pm_law_int an_law_int cd_law_int ct_law_int), sl_law_int⟩)
    (q_law_int : PySem.W.codeIn K cd_law_int "_law_int" = true)
    (p_law_int : PySem.W.keepIn K (.ref f_law_int) = true)
    (a_law_bits_ok : PySem.W.nsIn K mainGlobals "_law_bits_ok" = some (some (.ref f_law_bits_ok)))
    (l_law_bits_ok : K.lookup f_law_bits_ok = some ⟨oc_law_bits_ok, od_law_bits_ok, .func (PySem.W.fnOf "_law_bits_ok" "_law_bits_ok" (defArgs st_law_bits_ok) (defBody st_law_bits_ok) (defScope st_law_bits_ok) .none kV_law_bits_ok dc_law_bits_ok pm_law_bits_ok an_law_bits_ok cd_law_bits_ok ct_law_bits_ok), sl_law_bits_ok⟩)
    (q_law_bits_ok : PySem.W.codeIn K cd_law_bits_ok "_law_bits_ok" = true)
    (p_law_bits_ok : PySem.W.keepIn K (.ref f_law_bits_ok) = true)
    (a_law_clocks : PySem.W.nsIn K mainGlobals "_law_clocks" = some (some (.ref f_law_clocks)))
    (l_law_clocks : K.lookup f_law_clocks = some ⟨oc_law_clocks, od_law_clocks, .func (PySem.W.fnOf "_law_clocks" "_law_clocks" (defArgs st_law_clocks) (defBody st_law_clocks) (defScope st_law_clocks) .none kV_law_clocks dc_law_clocks pm_law_clocks an_law_clocks cd_law_clocks ct_law_clocks), sl_law_clocks⟩)
    (q_law_clocks : PySem.W.codeIn K cd_law_clocks "_law_clocks" = true)
    (p_law_clocks : PySem.W.keepIn K (.ref f_law_clocks) = true)
    (a_law_runs : PySem.W.nsIn K mainGlobals "_law_runs" = some (some (.ref f_law_runs)))
    (l_law_runs : K.lookup f_law_runs = some ⟨oc_law_runs, od_law_runs, .func (PySem.W.fnOf "_law_runs" "_law_runs" (defArgs st_law_runs) (defBody st_law_runs) (defScope st_law_runs) .none kV_law_runs dc_law_runs pm_law_runs an_law_runs cd_law_runs ct_law_runs), sl_law_runs⟩)
    (q_law_runs : PySem.W.codeIn K cd_law_runs "_law_runs" = true)
    (p_law_runs : PySem.W.keepIn K (.ref f_law_runs) = true)
    (a_law_out : PySem.W.nsIn K mainGlobals "_law_out" = some (some (.ref f_law_out)))
    (l_law_out : K.lookup f_law_out = some ⟨oc_law_out, od_law_out, .func (PySem.W.fnOf "_law_out" "_law_out" (defArgs st_law_out) (defBody st_law_out) (defScope st_law_out) .none kV_law_out dc_law_out pm_law_out an_law_out cd_law_out ct_law_out), sl_law_out⟩)
    (q_law_out : PySem.W.codeIn K cd_law_out "_law_out" = true)
    (p_law_out : PySem.W.keepIn K (.ref f_law_out) = true)
    (a_law_rule : PySem.W.nsIn K mainGlobals "_law_rule" = some (some (.ref f_law_rule)))
    (l_law_rule : K.lookup f_law_rule = some ⟨oc_law_rule, od_law_rule, .func (PySem.W.fnOf "_law_rule" "_law_rule" (defArgs st_law_rule) (defBody st_law_rule) (defScope st_law_rule) .none kV_law_rule dc_law_rule pm_law_rule an_law_rule cd_law_rule ct_law_rule), sl_law_rule⟩)
    (q_law_rule : PySem.W.codeIn K cd_law_rule "_law_rule" = true)
    (p_law_rule : PySem.W.keepIn K (.ref f_law_rule) = true)
    (a_law_rules : PySem.W.nsIn K mainGlobals "_law_rules" = some (some (.ref f_law_rules)))
    (l_law_rules : K.lookup f_law_rules = some ⟨oc_law_rules, od_law_rules, .func (PySem.W.fnOf "_law_rules" "_law_rules" (defArgs st_law_rules) (defBody st_law_rules) (defScope st_law_rules) .none kV_law_rules dc_law_rules pm_law_rules an_law_rules cd_law_rules ct_law_rules), sl_law_rules⟩)
    (q_law_rules : PySem.W.codeIn K cd_law_rules "_law_rules" = true)
    (p_law_rules : PySem.W.keepIn K (.ref f_law_rules) = true)
    (a_law_behind : PySem.W.nsIn K mainGlobals "_law_behind" = some (some (.ref f_law_behind)))
    (l_law_behind : K.lookup f_law_behind = some ⟨oc_law_behind, od_law_behind, .func (PySem.W.fnOf "_law_behind" "_law_behind" (defArgs st_law_behind) (defBody st_law_behind) (defScope st_law_behind) .none kV_law_behind dc_law_behind pm_law_behind an_law_behind cd_law_behind ct_law_behind), sl_law_behind⟩)
    (q_law_behind : PySem.W.codeIn K cd_law_behind "_law_behind" = true)
    (p_law_behind : PySem.W.keepIn K (.ref f_law_behind) = true)
    (a_law_sums : PySem.W.nsIn K mainGlobals "_law_sums" = some (some (.ref f_law_sums)))
    (l_law_sums : K.lookup f_law_sums = some ⟨oc_law_sums, od_law_sums, .func (PySem.W.fnOf "_law_sums" "_law_sums" (defArgs st_law_sums) (defBody st_law_sums) (defScope st_law_sums) .none kV_law_sums dc_law_sums pm_law_sums an_law_sums cd_law_sums ct_law_sums), sl_law_sums⟩)
    (q_law_sums : PySem.W.codeIn K cd_law_sums "_law_sums" = true)
    (p_law_sums : PySem.W.keepIn K (.ref f_law_sums) = true)
    (a_law_pair_told : PySem.W.nsIn K mainGlobals "_law_pair_told" = some (some (.ref f_law_pair_told)))
    (l_law_pair_told : K.lookup f_law_pair_told = some ⟨oc_law_pair_told, od_law_pair_told, .func (PySem.W.fnOf "_law_pair_told" "_law_pair_told" (defArgs st_law_pair_told) (defBody st_law_pair_told) (defScope st_law_pair_told) .none kV_law_pair_told dc_law_pair_told pm_law_pair_told an_law_pair_told cd_law_pair_told ct_law_pair_told), sl_law_pair_told⟩)
    (q_law_pair_told : PySem.W.codeIn K cd_law_pair_told "_law_pair_told" = true)
    (p_law_pair_told : PySem.W.keepIn K (.ref f_law_pair_told) = true)
    (a_law_first : PySem.W.nsIn K mainGlobals "_law_first" = some (some (.ref f_law_first)))
    (l_law_first : K.lookup f_law_first = some ⟨oc_law_first, od_law_first, .func (PySem.W.fnOf "_law_first" "_law_first" (defArgs st_law_first) (defBody st_law_first) (defScope st_law_first) .none kV_law_first dc_law_first pm_law_first an_law_first cd_law_first ct_law_first), sl_law_first⟩)
    (q_law_first : PySem.W.codeIn K cd_law_first "_law_first" = true)
    (p_law_first : PySem.W.keepIn K (.ref f_law_first) = true)
    (a_law_listed : PySem.W.nsIn K mainGlobals "_law_listed" = some (some (.ref f_law_listed)))
    (l_law_listed : K.lookup f_law_listed = some ⟨oc_law_listed, od_law_listed, .func (PySem.W.fnOf "_law_listed" "_law_listed" (defArgs st_law_listed) (defBody st_law_listed) (defScope st_law_listed) .none kV_law_listed dc_law_listed pm_law_listed an_law_listed cd_law_listed ct_law_listed), sl_law_listed⟩)
    (q_law_listed : PySem.W.codeIn K cd_law_listed "_law_listed" = true)
    (p_law_listed : PySem.W.keepIn K (.ref f_law_listed) = true)
    (a_law_turn : PySem.W.nsIn K mainGlobals "_law_turn" = some (some (.ref f_law_turn)))
    (l_law_turn : K.lookup f_law_turn = some ⟨oc_law_turn, od_law_turn, .func (PySem.W.fnOf "_law_turn" "_law_turn" (defArgs st_law_turn) (defBody st_law_turn) (defScope st_law_turn) .none kV_law_turn dc_law_turn pm_law_turn an_law_turn cd_law_turn ct_law_turn), sl_law_turn⟩)
    (q_law_turn : PySem.W.codeIn K cd_law_turn "_law_turn" = true)
    (p_law_turn : PySem.W.keepIn K (.ref f_law_turn) = true)
    (a_law_word : PySem.W.nsIn K mainGlobals "_law_word" = some (some (.ref f_law_word)))
    (l_law_word : K.lookup f_law_word = some ⟨oc_law_word, od_law_word, .func (PySem.W.fnOf "_law_word" "_law_word" (defArgs st_law_word) (defBody st_law_word) (defScope st_law_word) .none kV_law_word dc_law_word pm_law_word an_law_word cd_law_word ct_law_word), sl_law_word⟩)
    (q_law_word : PySem.W.codeIn K cd_law_word "_law_word" = true)
    (p_law_word : PySem.W.keepIn K (.ref f_law_word) = true)
    (a_law_refusals : PySem.W.nsIn K mainGlobals "_law_refusals" = some (some (.ref f_law_refusals)))
    (l_law_refusals : K.lookup f_law_refusals = some ⟨oc_law_refusals, od_law_refusals, .func (PySem.W.fnOf "_law_refusals" "_law_refusals" (defArgs st_law_refusals) (defBody st_law_refusals) (defScope st_law_refusals) .none kV_law_refusals dc_law_refusals pm_law_refusals an_law_refusals cd_law_refusals ct_law_refusals), sl_law_refusals⟩)
    (q_law_refusals : PySem.W.codeIn K cd_law_refusals "_law_refusals" = true)
    (p_law_refusals : PySem.W.keepIn K (.ref f_law_refusals) = true)
    (a_law : PySem.W.nsIn K mainGlobals "law" = some (some (.ref f_law)))
    (l_law : K.lookup f_law = some ⟨oc_law, od_law, .func (PySem.W.fnOf "law" "law" (defArgs st_law) (defBody st_law) (defScope st_law) .none kV_law dc_law pm_law an_law cd_law ct_law), sl_law⟩)
    (q_law : PySem.W.codeIn K cd_law "law" = true)
    (p_law : PySem.W.keepIn K (.ref f_law) = true)
    (a_c_BadNumber : PySem.W.nsIn K mainGlobals "BadNumber" = some (some (.ref c_BadNumber)))
    (xL_BadNumber : K.lookup c_BadNumber = some (excClassObj nm_BadNumber qn_BadNumber c_BadNumber ns_BadNumber bs_BadNumber [.ref b0_BadNumber, .type "ValueError", .type "Exception", .type "BaseException", .type "object"] true sn_BadNumber sb_BadNumber ab_BadNumber col_BadNumber dd_BadNumber m0_BadNumber m1_BadNumber m2_BadNumber m3_BadNumber m5_BadNumber "ValueError.__new__"))
    (sa_BadNumber : PySem.W.findIn K (.ref c_BadNumber) "__setattr__" = some (some (.builtin "object.__setattr__")))
    (ga_BadNumber : PySem.W.findIn K (.ref c_BadNumber) "__getattribute__" = some (some (.builtin "BaseException.__getattribute__")))
    (gg_BadNumber : PySem.W.findIn K (.ref c_BadNumber) "__getattr__" = some none)
    (n_BadNumber_word : PySem.W.findIn K (.ref c_BadNumber) "word" = some none)
    (in_BadNumber : PySem.W.findIn K (.ref c_BadNumber) "__init__" = some (some (.ref i_BadNumber)))
    (ti_BadNumber : PySem.W.typeIn K (.ref i_BadNumber) = some (.type "function"))
    (l_IBadNumber : K.lookup i_BadNumber = some ⟨oc_IBadNumber, od_IBadNumber, .func (PySem.W.fnOf "__init__" "BadNumber.__init__" (defArgs sti_BadNumber) (defBody sti_BadNumber) (defScope sti_BadNumber) .none kV_IBadNumber dc_IBadNumber pm_IBadNumber an_IBadNumber cd_IBadNumber ct_IBadNumber), sl_IBadNumber⟩)
    (q_IBadNumber : PySem.W.codeIn K cd_IBadNumber "BadNumber.__init__" = true)
    (p_IBadNumber : PySem.W.keepIn K (.ref i_BadNumber) = true)
    (kC_BadNumber : PySem.W.keepIn K (.ref c_BadNumber) = true)
    (eC_BadNumber : PySem.W.subIn K (.ref c_BadNumber) (.type "BaseException") = some true)
    (tC_BadNumber : PySem.W.typeIn K (.ref c_BadNumber) = some (.type "type"))
    (hC_BadNumber : PySem.W.hasDictIn K c_BadNumber = true)
    (iC_BadNumber : PySem.W.isClsIn K c_BadNumber = true)
    (a_c_BadRow : PySem.W.nsIn K mainGlobals "BadRow" = some (some (.ref c_BadRow)))
    (xL_BadRow : K.lookup c_BadRow = some (excClassObj nm_BadRow qn_BadRow c_BadRow ns_BadRow bs_BadRow [.ref b0_BadRow, .type "ValueError", .type "Exception", .type "BaseException", .type "object"] true sn_BadRow sb_BadRow ab_BadRow col_BadRow dd_BadRow m0_BadRow m1_BadRow m2_BadRow m3_BadRow m5_BadRow "ValueError.__new__"))
    (sa_BadRow : PySem.W.findIn K (.ref c_BadRow) "__setattr__" = some (some (.builtin "object.__setattr__")))
    (ga_BadRow : PySem.W.findIn K (.ref c_BadRow) "__getattribute__" = some (some (.builtin "BaseException.__getattribute__")))
    (gg_BadRow : PySem.W.findIn K (.ref c_BadRow) "__getattr__" = some none)
    (n_BadRow_place : PySem.W.findIn K (.ref c_BadRow) "place" = some none)
    (in_BadRow : PySem.W.findIn K (.ref c_BadRow) "__init__" = some (some (.ref i_BadRow)))
    (ti_BadRow : PySem.W.typeIn K (.ref i_BadRow) = some (.type "function"))
    (l_IBadRow : K.lookup i_BadRow = some ⟨oc_IBadRow, od_IBadRow, .func (PySem.W.fnOf "__init__" "BadRow.__init__" (defArgs sti_BadRow) (defBody sti_BadRow) (defScope sti_BadRow) .none kV_IBadRow dc_IBadRow pm_IBadRow an_IBadRow cd_IBadRow ct_IBadRow), sl_IBadRow⟩)
    (q_IBadRow : PySem.W.codeIn K cd_IBadRow "BadRow.__init__" = true)
    (p_IBadRow : PySem.W.keepIn K (.ref i_BadRow) = true)
    (kC_BadRow : PySem.W.keepIn K (.ref c_BadRow) = true)
    (eC_BadRow : PySem.W.subIn K (.ref c_BadRow) (.type "BaseException") = some true)
    (tC_BadRow : PySem.W.typeIn K (.ref c_BadRow) = some (.type "type"))
    (hC_BadRow : PySem.W.hasDictIn K c_BadRow = true)
    (iC_BadRow : PySem.W.isClsIn K c_BadRow = true)
    (s_BadNumber_BadNumber : PySem.W.subIn K (.ref c_BadNumber) (.ref c_BadNumber) = some true)
    (s_BadRow_BadNumber : PySem.W.subIn K (.ref c_BadRow) (.ref c_BadNumber) = some false)
    (s_BadNumber_BadRow : PySem.W.subIn K (.ref c_BadNumber) (.ref c_BadRow) = some false)
    (s_BadRow_BadRow : PySem.W.subIn K (.ref c_BadRow) (.ref c_BadRow) = some true) :
    ∃ fd : FuncData, (∀ (s : Shared) (v : Value), BindsTo s fd ⟨[v], []⟩ [("script", v)]) ∧ ∀ base : Heap, K.In base → base.Ns mainGlobals mg → FnOk l.prog w K mg base (L2.CX l.prog w) 10 fa fd ["script"] (spLaw K 63) := by
  have e := hfa.symm.trans (PySem.W.mg_of X G a_law)
  cases e
  have F_is_whole := fun_mk (st := st_is_whole) l_is_whole q_is_whole p_is_whole
  have F_whole_in := fun_mk (st := st_whole_in) l_whole_in q_whole_in p_whole_in
  have F_is_bit := fun_mk (st := st_is_bit) l_is_bit q_is_bit p_is_bit
  have F_check_row := fun_mk (st := st_check_row) l_check_row q_check_row p_check_row
  have F_checked_bits := fun_mk (st := st_checked_bits) l_checked_bits q_checked_bits p_checked_bits
  have F_delayed := fun_mk (st := st_delayed) l_delayed q_delayed p_delayed
  have F_checked_clocks := fun_mk (st := st_checked_clocks) l_checked_clocks q_checked_clocks p_checked_clocks
  have F_check_timer_row := fun_mk (st := st_check_timer_row) l_check_timer_row q_check_timer_row p_check_timer_row
  have F_check_delay := fun_mk (st := st_check_delay) l_check_delay q_check_delay p_check_delay
  have F_through_clock := fun_mk (st := st_through_clock) l_through_clock q_through_clock p_through_clock
  have F_row_bits := fun_mk (st := st_row_bits) l_row_bits q_row_bits p_row_bits
  have F_rule_here := fun_mk (st := st_rule_here) l_rule_here q_rule_here p_rule_here
  have F_usable_rules := fun_mk (st := st_usable_rules) l_usable_rules q_usable_rules p_usable_rules
  have F_first_rule := fun_mk (st := st_first_rule) l_first_rule q_first_rule p_first_rule
  have F_ruled := fun_mk (st := st_ruled) l_ruled q_ruled p_ruled
  have F_normal_clocks := fun_mk (st := st_normal_clocks) l_normal_clocks q_normal_clocks p_normal_clocks
  have F_normal := fun_mk (st := st_normal) l_normal q_normal p_normal
  have F_one_rule := fun_mk (st := st_one_rule) l_one_rule q_one_rule p_one_rule
  have F_rules_at := fun_mk (st := st_rules_at) l_rules_at q_rules_at p_rules_at
  have F_use := fun_mk (st := st_use) l_use q_use p_use
  have F_law_numbers := fun_mk (st := st_law_numbers) l_law_numbers q_law_numbers p_law_numbers
  have F_law_draw := fun_mk (st := st_law_draw) l_law_draw q_law_draw p_law_draw
  have F_law_int := fun_mk (st := st_law_int) l_law_int q_law_int p_law_int
  have F_law_bits_ok := fun_mk (st := st_law_bits_ok) l_law_bits_ok q_law_bits_ok p_law_bits_ok
  have F_law_clocks := fun_mk (st := st_law_clocks) l_law_clocks q_law_clocks p_law_clocks
  have F_law_runs := fun_mk (st := st_law_runs) l_law_runs q_law_runs p_law_runs
  have F_law_out := fun_mk (st := st_law_out) l_law_out q_law_out p_law_out
  have F_law_rule := fun_mk (st := st_law_rule) l_law_rule q_law_rule p_law_rule
  have F_law_rules := fun_mk (st := st_law_rules) l_law_rules q_law_rules p_law_rules
  have F_law_behind := fun_mk (st := st_law_behind) l_law_behind q_law_behind p_law_behind
  have F_law_sums := fun_mk (st := st_law_sums) l_law_sums q_law_sums p_law_sums
  have F_law_pair_told := fun_mk (st := st_law_pair_told) l_law_pair_told q_law_pair_told p_law_pair_told
  have F_law_first := fun_mk (st := st_law_first) l_law_first q_law_first p_law_first
  have F_law_listed := fun_mk (st := st_law_listed) l_law_listed q_law_listed p_law_listed
  have F_law_turn := fun_mk (st := st_law_turn) l_law_turn q_law_turn p_law_turn
  have F_law_word := fun_mk (st := st_law_word) l_law_word q_law_word p_law_word
  have F_law_refusals := fun_mk (st := st_law_refusals) l_law_refusals q_law_refusals p_law_refusals
  have F_law := fun_mk (st := st_law) l_law q_law p_law
  have F_IBadNumber := fun_mk (st := sti_BadNumber) l_IBadNumber q_IBadNumber p_IBadNumber
  have F_IBadRow := fun_mk (st := sti_BadRow) l_IBadRow q_IBadRow p_IBadRow
  let Z : Zs := ⟨f_is_whole, PySem.W.fnOf "_is_whole" "_is_whole" (defArgs st_is_whole) (defBody st_is_whole) (defScope st_is_whole) .none kV_is_whole dc_is_whole pm_is_whole an_is_whole cd_is_whole ct_is_whole, f_whole_in, PySem.W.fnOf "_whole_in" "_whole_in" (defArgs st_whole_in) (defBody st_whole_in) (defScope st_whole_in) .none kV_whole_in dc_whole_in pm_whole_in an_whole_in cd_whole_in ct_whole_in, f_is_bit, PySem.W.fnOf "is_bit" "is_bit" (defArgs st_is_bit) (defBody st_is_bit) (defScope st_is_bit) .none kV_is_bit dc_is_bit pm_is_bit an_is_bit cd_is_bit ct_is_bit, f_check_row, PySem.W.fnOf "check_row" "check_row" (defArgs st_check_row) (defBody st_check_row) (defScope st_check_row) .none kV_check_row dc_check_row pm_check_row an_check_row cd_check_row ct_check_row, f_checked_bits, PySem.W.fnOf "_checked_bits" "_checked_bits" (defArgs st_checked_bits) (defBody st_checked_bits) (defScope st_checked_bits) .none kV_checked_bits dc_checked_bits pm_checked_bits an_checked_bits cd_checked_bits ct_checked_bits, f_delayed, PySem.W.fnOf "delayed" "delayed" (defArgs st_delayed) (defBody st_delayed) (defScope st_delayed) .none kV_delayed dc_delayed pm_delayed an_delayed cd_delayed ct_delayed, f_checked_clocks, PySem.W.fnOf "_checked_clocks" "_checked_clocks" (defArgs st_checked_clocks) (defBody st_checked_clocks) (defScope st_checked_clocks) .none kV_checked_clocks dc_checked_clocks pm_checked_clocks an_checked_clocks cd_checked_clocks ct_checked_clocks, f_check_timer_row, PySem.W.fnOf "check_timer_row" "check_timer_row" (defArgs st_check_timer_row) (defBody st_check_timer_row) (defScope st_check_timer_row) .none kV_check_timer_row dc_check_timer_row pm_check_timer_row an_check_timer_row cd_check_timer_row ct_check_timer_row, f_check_delay, PySem.W.fnOf "_check_delay" "_check_delay" (defArgs st_check_delay) (defBody st_check_delay) (defScope st_check_delay) .none kV_check_delay dc_check_delay pm_check_delay an_check_delay cd_check_delay ct_check_delay, f_through_clock, PySem.W.fnOf "_through_clock" "_through_clock" (defArgs st_through_clock) (defBody st_through_clock) (defScope st_through_clock) .none kV_through_clock dc_through_clock pm_through_clock an_through_clock cd_through_clock ct_through_clock, f_row_bits, PySem.W.fnOf "row_bits" "row_bits" (defArgs st_row_bits) (defBody st_row_bits) (defScope st_row_bits) .none kV_row_bits dc_row_bits pm_row_bits an_row_bits cd_row_bits ct_row_bits, f_rule_here, PySem.W.fnOf "_rule_here" "_rule_here" (defArgs st_rule_here) (defBody st_rule_here) (defScope st_rule_here) .none kV_rule_here dc_rule_here pm_rule_here an_rule_here cd_rule_here ct_rule_here, f_usable_rules, PySem.W.fnOf "_usable_rules" "_usable_rules" (defArgs st_usable_rules) (defBody st_usable_rules) (defScope st_usable_rules) .none kV_usable_rules dc_usable_rules pm_usable_rules an_usable_rules cd_usable_rules ct_usable_rules, f_first_rule, PySem.W.fnOf "_first_rule" "_first_rule" (defArgs st_first_rule) (defBody st_first_rule) (defScope st_first_rule) .none kV_first_rule dc_first_rule pm_first_rule an_first_rule cd_first_rule ct_first_rule, f_ruled, PySem.W.fnOf "_ruled" "_ruled" (defArgs st_ruled) (defBody st_ruled) (defScope st_ruled) .none kV_ruled dc_ruled pm_ruled an_ruled cd_ruled ct_ruled, f_normal_clocks, PySem.W.fnOf "_normal_clocks" "_normal_clocks" (defArgs st_normal_clocks) (defBody st_normal_clocks) (defScope st_normal_clocks) .none kV_normal_clocks dc_normal_clocks pm_normal_clocks an_normal_clocks cd_normal_clocks ct_normal_clocks, f_normal, PySem.W.fnOf "normal" "normal" (defArgs st_normal) (defBody st_normal) (defScope st_normal) .none (.ref kd_normal) dc_normal pm_normal an_normal cd_normal ct_normal, f_one_rule, PySem.W.fnOf "one_rule" "one_rule" (defArgs st_one_rule) (defBody st_one_rule) (defScope st_one_rule) .none kV_one_rule dc_one_rule pm_one_rule an_one_rule cd_one_rule ct_one_rule, f_rules_at, PySem.W.fnOf "rules_at" "rules_at" (defArgs st_rules_at) (defBody st_rules_at) (defScope st_rules_at) .none kV_rules_at dc_rules_at pm_rules_at an_rules_at cd_rules_at ct_rules_at, f_use, PySem.W.fnOf "use" "use" (defArgs st_use) (defBody st_use) (defScope st_use) .none kV_use dc_use pm_use an_use cd_use ct_use, f_law_numbers, PySem.W.fnOf "_law_numbers" "_law_numbers" (defArgs st_law_numbers) (defBody st_law_numbers) (defScope st_law_numbers) .none kV_law_numbers dc_law_numbers pm_law_numbers an_law_numbers cd_law_numbers ct_law_numbers, f_law_draw, PySem.W.fnOf "_law_draw" "_law_draw" (defArgs st_law_draw) (defBody st_law_draw) (defScope st_law_draw) .none kV_law_draw dc_law_draw pm_law_draw an_law_draw cd_law_draw ct_law_draw, f_law_int, PySem.W.fnOf "_law_int" "_law_int" (defArgs st_law_int) (defBody st_law_int) (defScope st_law_int) .none kV_law_int dc_law_int pm_law_int an_law_int cd_law_int ct_law_int, f_law_bits_ok, PySem.W.fnOf "_law_bits_ok" "_law_bits_ok" (defArgs st_law_bits_ok) (defBody st_law_bits_ok) (defScope st_law_bits_ok) .none kV_law_bits_ok dc_law_bits_ok pm_law_bits_ok an_law_bits_ok cd_law_bits_ok ct_law_bits_ok, f_law_clocks, PySem.W.fnOf "_law_clocks" "_law_clocks" (defArgs st_law_clocks) (defBody st_law_clocks) (defScope st_law_clocks) .none kV_law_clocks dc_law_clocks pm_law_clocks an_law_clocks cd_law_clocks ct_law_clocks, f_law_runs, PySem.W.fnOf "_law_runs" "_law_runs" (defArgs st_law_runs) (defBody st_law_runs) (defScope st_law_runs) .none kV_law_runs dc_law_runs pm_law_runs an_law_runs cd_law_runs ct_law_runs, f_law_out, PySem.W.fnOf "_law_out" "_law_out" (defArgs st_law_out) (defBody st_law_out) (defScope st_law_out) .none kV_law_out dc_law_out pm_law_out an_law_out cd_law_out ct_law_out, f_law_rule, PySem.W.fnOf "_law_rule" "_law_rule" (defArgs st_law_rule) (defBody st_law_rule) (defScope st_law_rule) .none kV_law_rule dc_law_rule pm_law_rule an_law_rule cd_law_rule ct_law_rule, f_law_rules, PySem.W.fnOf "_law_rules" "_law_rules" (defArgs st_law_rules) (defBody st_law_rules) (defScope st_law_rules) .none kV_law_rules dc_law_rules pm_law_rules an_law_rules cd_law_rules ct_law_rules, f_law_behind, PySem.W.fnOf "_law_behind" "_law_behind" (defArgs st_law_behind) (defBody st_law_behind) (defScope st_law_behind) .none kV_law_behind dc_law_behind pm_law_behind an_law_behind cd_law_behind ct_law_behind, f_law_sums, PySem.W.fnOf "_law_sums" "_law_sums" (defArgs st_law_sums) (defBody st_law_sums) (defScope st_law_sums) .none kV_law_sums dc_law_sums pm_law_sums an_law_sums cd_law_sums ct_law_sums, f_law_pair_told, PySem.W.fnOf "_law_pair_told" "_law_pair_told" (defArgs st_law_pair_told) (defBody st_law_pair_told) (defScope st_law_pair_told) .none kV_law_pair_told dc_law_pair_told pm_law_pair_told an_law_pair_told cd_law_pair_told ct_law_pair_told, f_law_first, PySem.W.fnOf "_law_first" "_law_first" (defArgs st_law_first) (defBody st_law_first) (defScope st_law_first) .none kV_law_first dc_law_first pm_law_first an_law_first cd_law_first ct_law_first, f_law_listed, PySem.W.fnOf "_law_listed" "_law_listed" (defArgs st_law_listed) (defBody st_law_listed) (defScope st_law_listed) .none kV_law_listed dc_law_listed pm_law_listed an_law_listed cd_law_listed ct_law_listed, f_law_turn, PySem.W.fnOf "_law_turn" "_law_turn" (defArgs st_law_turn) (defBody st_law_turn) (defScope st_law_turn) .none kV_law_turn dc_law_turn pm_law_turn an_law_turn cd_law_turn ct_law_turn, f_law_word, PySem.W.fnOf "_law_word" "_law_word" (defArgs st_law_word) (defBody st_law_word) (defScope st_law_word) .none kV_law_word dc_law_word pm_law_word an_law_word cd_law_word ct_law_word, f_law_refusals, PySem.W.fnOf "_law_refusals" "_law_refusals" (defArgs st_law_refusals) (defBody st_law_refusals) (defScope st_law_refusals) .none kV_law_refusals dc_law_refusals pm_law_refusals an_law_refusals cd_law_refusals ct_law_refusals, fa, PySem.W.fnOf "law" "law" (defArgs st_law) (defBody st_law) (defScope st_law) .none kV_law dc_law pm_law an_law cd_law ct_law, c_BadNumber, i_BadNumber, PySem.W.fnOf "__init__" "BadNumber.__init__" (defArgs sti_BadNumber) (defBody sti_BadNumber) (defScope sti_BadNumber) .none kV_IBadNumber dc_IBadNumber pm_IBadNumber an_IBadNumber cd_IBadNumber ct_IBadNumber, c_BadRow, i_BadRow, PySem.W.fnOf "__init__" "BadRow.__init__" (defArgs sti_BadRow) (defBody sti_BadRow) (defScope sti_BadRow) .none kV_IBadRow dc_IBadRow pm_IBadRow an_IBadRow cd_IBadRow ct_IBadRow, (fun nm => if nm = "BadNumber" then c_BadNumber else if nm = "BadRow" then c_BadRow else 0), t_ROW_KINDS⟩
  have T : Txt K mg Z := {
    z_bool := PySem.W.mg_none_of X G z_bool,
    z_enumerate := PySem.W.mg_none_of X G z_enumerate,
    z_int := PySem.W.mg_none_of X G z_int,
    z_isinstance := PySem.W.mg_none_of X G z_isinstance,
    z_len := PySem.W.mg_none_of X G z_len,
    z_list := PySem.W.mg_none_of X G z_list,
    z_min := PySem.W.mg_none_of X G z_min,
    z_range := PySem.W.mg_none_of X G z_range,
    z_str := PySem.W.mg_none_of X G z_str,
    z_sum := PySem.W.mg_none_of X G z_sum,
    z_tuple := PySem.W.mg_none_of X G z_tuple,
    k_ROW_KINDS := ⟨_, PySem.W.mg_of X G k_ROW_KINDS, rfl⟩,
    t_ROW_KINDS := fun H => sqT_K lt_ROW_KINDS (Nat.le_of_ble_eq_true rfl) (.cons ⟨_, rfl⟩ (.cons ⟨_, rfl⟩ .nil)),
    d_is_whole := ⟨F_is_whole, PySem.W.mg_of X G a_is_whole, F_is_whole.binds (ps := ["value"]) fun _ _ _ _ _ _ us hl => match us, hl with | [_], _ => rfl⟩,
    d_whole_in := ⟨F_whole_in, PySem.W.mg_of X G a_whole_in, F_whole_in.binds (ps := ["value", "low", "high"]) fun _ _ _ _ _ _ us hl => match us, hl with | [_, _, _], _ => rfl⟩,
    d_is_bit := ⟨F_is_bit, PySem.W.mg_of X G a_is_bit, F_is_bit.binds (ps := ["value"]) fun _ _ _ _ _ _ us hl => match us, hl with | [_], _ => rfl⟩,
    d_check_row := ⟨F_check_row, PySem.W.mg_of X G a_check_row, F_check_row.binds (ps := ["row", "many"]) fun _ _ _ _ _ _ us hl => match us, hl with | [_, _], _ => rfl⟩,
    d_checked_bits := ⟨F_checked_bits, PySem.W.mg_of X G a_checked_bits, F_checked_bits.binds (ps := ["bits"]) fun _ _ _ _ _ _ us hl => match us, hl with | [_], _ => rfl⟩,
    d_delayed := ⟨F_delayed, PySem.W.mg_of X G a_delayed, F_delayed.binds (ps := ["bits", "d"]) fun _ _ _ _ _ _ us hl => match us, hl with | [_, _], _ => rfl⟩,
    d_checked_clocks := ⟨F_checked_clocks, PySem.W.mg_of X G a_checked_clocks, F_checked_clocks.binds (ps := ["row", "word"]) fun _ _ _ _ _ _ us hl => match us, hl with | [_, _], _ => rfl⟩,
    d_check_timer_row := ⟨F_check_timer_row, PySem.W.mg_of X G a_check_timer_row, F_check_timer_row.binds (ps := ["row"]) fun _ _ _ _ _ _ us hl => match us, hl with | [_], _ => rfl⟩,
    d_check_delay := ⟨F_check_delay, PySem.W.mg_of X G a_check_delay, F_check_delay.binds (ps := ["delay", "word"]) fun _ _ _ _ _ _ us hl => match us, hl with | [_, _], _ => rfl⟩,
    d_through_clock := ⟨F_through_clock, PySem.W.mg_of X G a_through_clock, F_through_clock.binds (ps := ["kind", "number", "bits"]) fun _ _ _ _ _ _ us hl => match us, hl with | [_, _, _], _ => rfl⟩,
    d_row_bits := ⟨F_row_bits, PySem.W.mg_of X G a_row_bits, ⟨fun s us ws h1 h2 => match us, ws, h1, h2 with | [_, _], [_], _, _ => .of_eq rfl⟩⟩,
    d_rule_here := ⟨F_rule_here, PySem.W.mg_of X G a_rule_here, F_rule_here.binds (ps := ["clocks", "place"]) fun _ _ _ _ _ _ us hl => match us, hl with | [_, _], _ => rfl⟩,
    d_usable_rules := ⟨F_usable_rules, PySem.W.mg_of X G a_usable_rules, F_usable_rules.binds (ps := ["clocks"]) fun _ _ _ _ _ _ us hl => match us, hl with | [_], _ => rfl⟩,
    d_first_rule := ⟨F_first_rule, PySem.W.mg_of X G a_first_rule, F_first_rule.binds (ps := ["clocks"]) fun _ _ _ _ _ _ us hl => match us, hl with | [_], _ => rfl⟩,
    d_ruled := ⟨F_ruled, PySem.W.mg_of X G a_ruled, F_ruled.binds (ps := ["clocks", "delay", "place", "rule"]) fun _ _ _ _ _ _ us hl => match us, hl with | [_, _, _, _], _ => rfl⟩,
    d_normal_clocks := ⟨F_normal_clocks, PySem.W.mg_of X G a_normal_clocks, F_normal_clocks.binds (ps := ["clocks", "delay"]) fun _ _ _ _ _ _ us hl => match us, hl with | [_, _], _ => rfl⟩,
    d_normal := ⟨F_normal, PySem.W.mg_of X G a_normal, ⟨fun s us ws h1 h2 => match us, ws, h1, h2 with | [_], [_], _, _ => .of_eq rfl⟩⟩,
    bd_normal := FunD.binds0 (x := "normal") (qual := "normal") (params := defArgs st_normal) (body := defBody st_normal) (scope := defScope st_normal) (kws := [("delay", .int 0)]) (f := f_normal) ⟨⟨_, _, _, _, _, _, _, _, _, _, rfl, l_normal, q_normal, .inl ⟨rfl, rfl⟩, .inr ⟨_, rfl, fun q hq => by simp only [List.mem_cons, List.not_mem_nil, or_false] at hq; subst hq; exact ⟨_, kn_normal_delay, ⟨_, rfl⟩⟩⟩⟩, p_normal⟩ 1 (by simp) rfl (fun D doc pm an cdv ct us ks h1 h2 => match us, ks, h1, h2 with | [_], [_], _, _ => ⟨_, _, _, _, _, _, rfl, rfl, rfl⟩),
    d_one_rule := ⟨F_one_rule, PySem.W.mg_of X G a_one_rule, F_one_rule.binds (ps := ["row", "delay"]) fun _ _ _ _ _ _ us hl => match us, hl with | [_, _], _ => rfl⟩,
    d_rules_at := ⟨F_rules_at, PySem.W.mg_of X G a_rules_at, F_rules_at.binds (ps := ["row"]) fun _ _ _ _ _ _ us hl => match us, hl with | [_], _ => rfl⟩,
    d_use := ⟨F_use, PySem.W.mg_of X G a_use, F_use.binds (ps := ["row", "delay", "place"]) fun _ _ _ _ _ _ us hl => match us, hl with | [_, _, _], _ => rfl⟩,
    d_law_numbers := ⟨F_law_numbers, PySem.W.mg_of X G a_law_numbers, F_law_numbers.binds (ps := ["script"]) fun _ _ _ _ _ _ us hl => match us, hl with | [_], _ => rfl⟩,
    d_law_draw := ⟨F_law_draw, PySem.W.mg_of X G a_law_draw, F_law_draw.binds (ps := ["numbers", "many"]) fun _ _ _ _ _ _ us hl => match us, hl with | [_, _], _ => rfl⟩,
    d_law_int := ⟨F_law_int, PySem.W.mg_of X G a_law_int, F_law_int.binds (ps := ["value"]) fun _ _ _ _ _ _ us hl => match us, hl with | [_], _ => rfl⟩,
    d_law_bits_ok := ⟨F_law_bits_ok, PySem.W.mg_of X G a_law_bits_ok, F_law_bits_ok.binds (ps := ["row", "many"]) fun _ _ _ _ _ _ us hl => match us, hl with | [_, _], _ => rfl⟩,
    d_law_clocks := ⟨F_law_clocks, PySem.W.mg_of X G a_law_clocks, F_law_clocks.binds (ps := ["numbers"]) fun _ _ _ _ _ _ us hl => match us, hl with | [_], _ => rfl⟩,
    d_law_runs := ⟨F_law_runs, PySem.W.mg_of X G a_law_runs, F_law_runs.binds (ps := ["numbers"]) fun _ _ _ _ _ _ us hl => match us, hl with | [_], _ => rfl⟩,
    d_law_out := ⟨F_law_out, PySem.W.mg_of X G a_law_out, F_law_out.binds (ps := ["row", "delay", "bits"]) fun _ _ _ _ _ _ us hl => match us, hl with | [_, _, _], _ => rfl⟩,
    d_law_rule := ⟨F_law_rule, PySem.W.mg_of X G a_law_rule, F_law_rule.binds (ps := ["row", "place"]) fun _ _ _ _ _ _ us hl => match us, hl with | [_, _], _ => rfl⟩,
    d_law_rules := ⟨F_law_rules, PySem.W.mg_of X G a_law_rules, F_law_rules.binds (ps := ["row"]) fun _ _ _ _ _ _ us hl => match us, hl with | [_], _ => rfl⟩,
    d_law_behind := ⟨F_law_behind, PySem.W.mg_of X G a_law_behind, F_law_behind.binds (ps := ["row", "delay", "place", "rule"]) fun _ _ _ _ _ _ us hl => match us, hl with | [_, _, _, _], _ => rfl⟩,
    d_law_sums := ⟨F_law_sums, PySem.W.mg_of X G a_law_sums, F_law_sums.binds (ps := ["row", "delay"]) fun _ _ _ _ _ _ us hl => match us, hl with | [_, _], _ => rfl⟩,
    d_law_pair_told := ⟨F_law_pair_told, PySem.W.mg_of X G a_law_pair_told, F_law_pair_told.binds (ps := ["told", "due"]) fun _ _ _ _ _ _ us hl => match us, hl with | [_, _], _ => rfl⟩,
    d_law_first := ⟨F_law_first, PySem.W.mg_of X G a_law_first, F_law_first.binds (ps := ["row", "delay", "rules"]) fun _ _ _ _ _ _ us hl => match us, hl with | [_, _, _], _ => rfl⟩,
    d_law_listed := ⟨F_law_listed, PySem.W.mg_of X G a_law_listed, F_law_listed.binds (ps := ["row"]) fun _ _ _ _ _ _ us hl => match us, hl with | [_], _ => rfl⟩,
    d_law_turn := ⟨F_law_turn, PySem.W.mg_of X G a_law_turn, F_law_turn.binds (ps := ["row", "delay", "rules"]) fun _ _ _ _ _ _ us hl => match us, hl with | [_, _, _], _ => rfl⟩,
    d_law_word := ⟨F_law_word, PySem.W.mg_of X G a_law_word, F_law_word.binds (ps := ["word", "row", "delay", "more"]) fun _ _ _ _ _ _ us hl => match us, hl with | [_, _, _, _], _ => rfl⟩,
    d_law_refusals := ⟨F_law_refusals, PySem.W.mg_of X G a_law_refusals, F_law_refusals.binds (ps := ["row"]) fun _ _ _ _ _ _ us hl => match us, hl with | [_], _ => rfl⟩,
    d_law := ⟨F_law, PySem.W.mg_of X G a_law, F_law.binds (ps := ["script"]) fun _ _ _ _ _ _ us hl => match us, hl with | [_], _ => rfl⟩,
    x_BadNumber := ⟨⟨⟨nm_BadNumber, qn_BadNumber, ns_BadNumber, bs_BadNumber, _, sn_BadNumber, sb_BadNumber, ab_BadNumber, col_BadNumber, dd_BadNumber, m0_BadNumber, m1_BadNumber, m2_BadNumber, m3_BadNumber, m5_BadNumber, xL_BadNumber, rfl⟩, sa_BadNumber, eC_BadNumber, tC_BadNumber, kC_BadNumber⟩, PySem.W.mg_of X G a_c_BadNumber, in_BadNumber, ti_BadNumber, F_IBadNumber, F_IBadNumber.binds (ps := ["self", "word"]) (fun _ _ _ _ _ _ us hl => match us, hl with | [_, _], _ => rfl), fun f hf => by simp only [List.mem_cons, List.not_mem_nil, or_false] at hf; subst hf; exact n_BadNumber_word, ⟨ga_BadNumber, gg_BadNumber, eC_BadNumber, hC_BadNumber⟩⟩,
    ec_BadNumber := (by show (if ("BadNumber" : Str) = "BadNumber" then c_BadNumber else if ("BadNumber" : Str) = "BadRow" then c_BadRow else 0) = c_BadNumber; rw [if_pos rfl]),
    x_BadRow := ⟨⟨⟨nm_BadRow, qn_BadRow, ns_BadRow, bs_BadRow, _, sn_BadRow, sb_BadRow, ab_BadRow, col_BadRow, dd_BadRow, m0_BadRow, m1_BadRow, m2_BadRow, m3_BadRow, m5_BadRow, xL_BadRow, rfl⟩, sa_BadRow, eC_BadRow, tC_BadRow, kC_BadRow⟩, PySem.W.mg_of X G a_c_BadRow, in_BadRow, ti_BadRow, F_IBadRow, F_IBadRow.binds (ps := ["self", "place"]) (fun _ _ _ _ _ _ us hl => match us, hl with | [_, _], _ => rfl), fun f hf => by simp only [List.mem_cons, List.not_mem_nil, or_false] at hf; subst hf; exact n_BadRow_place, ⟨ga_BadRow, gg_BadRow, eC_BadRow, hC_BadRow⟩⟩,
    ec_BadRow := (by show (if ("BadRow" : Str) = "BadNumber" then c_BadNumber else if ("BadRow" : Str) = "BadRow" then c_BadRow else 0) = c_BadRow; rw [if_neg (show ¬ (("BadRow" : Str) = "BadNumber") by decide), if_pos rfl]),
    sub_BadNumber := (fun nm r h => by
      unfold sub_BadNumber at h
      show PySem.W.exmOne K (.ref (if nm = "BadNumber" then c_BadNumber else if nm = "BadRow" then c_BadRow else 0)) (.ref c_BadNumber) = some r
      by_cases e_BadNumber : nm = "BadNumber"
      · rw [if_pos e_BadNumber] at h ⊢; cases h; exact exm_of eC_BadNumber iC_BadNumber tC_BadNumber s_BadNumber_BadNumber
      rw [if_neg e_BadNumber] at h ⊢
      by_cases e_BadRow : nm = "BadRow"
      · rw [if_pos e_BadRow] at h ⊢; cases h; exact exm_of eC_BadNumber iC_BadNumber tC_BadNumber s_BadRow_BadNumber
      rw [if_neg e_BadRow] at h ⊢
      cases h),
    sub_BadRow := (fun nm r h => by
      unfold sub_BadRow at h
      show PySem.W.exmOne K (.ref (if nm = "BadNumber" then c_BadNumber else if nm = "BadRow" then c_BadRow else 0)) (.ref c_BadRow) = some r
      by_cases e_BadNumber : nm = "BadNumber"
      · rw [if_pos e_BadNumber] at h ⊢; cases h; exact exm_of eC_BadRow iC_BadRow tC_BadRow s_BadNumber_BadRow
      rw [if_neg e_BadNumber] at h ⊢
      by_cases e_BadRow : nm = "BadRow"
      · rw [if_pos e_BadRow] at h ⊢; cases h; exact exm_of eC_BadRow iC_BadRow tC_BadRow s_BadRow_BadRow
      rw [if_neg e_BadRow] at h ⊢
      cases h) }
  exact ⟨PySem.W.fnOf "law" "law" (defArgs st_law) (defBody st_law) (defScope st_law) .none kV_law dc_law pm_law an_law cd_law ct_law, fun s v => .of_eq rfl, fun base _ _ => (ok_law (P := l.prog) (w := w) (base := base) T).imp fun vs H Q E q => law_sp hlaw q⟩
theorem walk (hlaw : ∀ ns : List Int, ns.length ≤ 63 → f_law ns = .nx true) {l : PySem.W.OpenLaw} {q : Program} {loose : List Str} {XP : (Str → Option Value) → Heap → Prop} {YP : World → Heap → Prop} {d : DefRec} {K : Params → PySem.W.Frag} (hn : l.most = some 63) (hdf : d.params.defaults = [])
    (hY : ∀ (w : World) (h : Heap), YP w h → (K w.params).In h)
    (F : ∀ (w : World) (mg : Str → Option Value) (fa : Addr) (h : Heap), (K w.params).In h → h.Ns mainGlobals mg → mg d.name = some (.ref fa) →
      ∃ fd : FuncData, (∀ (s : Shared) (u : Value), BindsTo s fd ⟨[u], []⟩ [("script", u)]) ∧ ∀ base : Heap, (K w.params).In base → base.Ns mainGlobals mg → FnOk l.prog w (K w.params) mg base (L2.CX l.prog w) 10 fa fd ["script"] (spLaw (K w.params) 63)) :
    PySem.W.WalkO q loose XP YP l.row.toRowW d [] (fun f vs => PySem.call f vs) :=
  L2.walk_of (n := 63) (k := 10) (x := "script") (CX := fun w => L2.CX l.prog w) (sp := fun w => spLaw (K w.params) 63) hn (by decide) hdf ⟨rfl, by decide, by decide⟩ hY F (fun _ _ a ns hl _ hS => ⟨a, ns, rfl, hS, hl, fun _ => rfl⟩) fun _ _ _ _ _ h => by
    obtain ⟨_, _, _, _, _, _, _, _, _, _, _, _, z⟩ := h
    exact z.elim
end Lw
open PySem PySem.W PyProof.Rows
set_option maxRecDepth 100000 in
set_option maxHeartbeats 0 in
theorem PySem.Challenge.cw_guardrungs_k24_rules_holds : PySem.Challenge.rw_guardrungs_k24_rules.Holds := by
  w_on; o_law; k_head; (case hw => w_witness2)
  k_fill
  refine Lw.walk Lw.law_true (l := PySem.Challenge.rw_guardrungs_k24_rules) rfl rfl (fun w h Y => PySem.W.kIn_of Y) ?F
  case F =>
    intro w mg fa h KX G hmg
    refine' Lw.all_mk Lw.law_true KX G hmg ?z_bool ?z_enumerate ?z_int ?z_isinstance ?z_len ?z_list ?z_min ?z_range ?z_str ?z_sum ?z_tuple ?k_ROW_KINDS ?lt_ROW_KINDS ?a_is_whole ?l_is_whole ?q_is_whole ?p_is_whole ?a_whole_in ?l_whole_in ?q_whole_in ?p_whole_in ?a_is_bit ?l_is_bit ?q_is_bit ?p_is_bit ?a_check_row ?l_check_row ?q_check_row ?p_check_row ?a_checked_bits ?l_checked_bits ?q_checked_bits ?p_checked_bits ?a_delayed ?l_delayed ?q_delayed ?p_delayed ?a_checked_clocks ?l_checked_clocks ?q_checked_clocks ?p_checked_clocks ?a_check_timer_row ?l_check_timer_row ?q_check_timer_row ?p_check_timer_row ?a_check_delay ?l_check_delay ?q_check_delay ?p_check_delay ?a_through_clock ?l_through_clock ?q_through_clock ?p_through_clock ?a_row_bits ?l_row_bits ?q_row_bits ?p_row_bits ?a_rule_here ?l_rule_here ?q_rule_here ?p_rule_here ?a_usable_rules ?l_usable_rules ?q_usable_rules ?p_usable_rules ?a_first_rule ?l_first_rule ?q_first_rule ?p_first_rule ?a_ruled ?l_ruled ?q_ruled ?p_ruled ?a_normal_clocks ?l_normal_clocks ?q_normal_clocks ?p_normal_clocks ?a_normal ?l_normal ?q_normal ?p_normal ?kn_normal_delay ?a_one_rule ?l_one_rule ?q_one_rule ?p_one_rule ?a_rules_at ?l_rules_at ?q_rules_at ?p_rules_at ?a_use ?l_use ?q_use ?p_use ?a_law_numbers ?l_law_numbers ?q_law_numbers ?p_law_numbers ?a_law_draw ?l_law_draw ?q_law_draw ?p_law_draw ?a_law_int ?l_law_int ?q_law_int ?p_law_int ?a_law_bits_ok ?l_law_bits_ok ?q_law_bits_ok ?p_law_bits_ok ?a_law_clocks ?l_law_clocks ?q_law_clocks ?p_law_clocks ?a_law_runs ?l_law_runs ?q_law_runs ?p_law_runs ?a_law_out ?l_law_out ?q_law_out ?p_law_out ?a_law_rule ?l_law_rule ?q_law_rule ?p_law_rule ?a_law_rules ?l_law_rules ?q_law_rules ?p_law_rules ?a_law_behind ?l_law_behind ?q_law_behind ?p_law_behind ?a_law_sums ?l_law_sums ?q_law_sums ?p_law_sums ?a_law_pair_told ?l_law_pair_told ?q_law_pair_told ?p_law_pair_told ?a_law_first ?l_law_first ?q_law_first ?p_law_first ?a_law_listed ?l_law_listed ?q_law_listed ?p_law_listed ?a_law_turn ?l_law_turn ?q_law_turn ?p_law_turn ?a_law_word ?l_law_word ?q_law_word ?p_law_word ?a_law_refusals ?l_law_refusals ?q_law_refusals ?p_law_refusals ?a_law ?l_law ?q_law ?p_law ?a_c_BadNumber ?xL_BadNumber ?sa_BadNumber ?ga_BadNumber ?gg_BadNumber ?n_BadNumber_word ?in_BadNumber ?ti_BadNumber ?l_IBadNumber ?q_IBadNumber ?p_IBadNumber ?kC_BadNumber ?eC_BadNumber ?tC_BadNumber ?hC_BadNumber ?iC_BadNumber ?a_c_BadRow ?xL_BadRow ?sa_BadRow ?ga_BadRow ?gg_BadRow ?n_BadRow_place ?in_BadRow ?ti_BadRow ?l_IBadRow ?q_IBadRow ?p_IBadRow ?kC_BadRow ?eC_BadRow ?tC_BadRow ?hC_BadRow ?iC_BadRow ?s_BadNumber_BadNumber ?s_BadRow_BadNumber ?s_BadNumber_BadRow ?s_BadRow_BadRow
    (case z_bool => k_is)
    (case z_enumerate => k_is)
    (case z_int => k_is)
    (case z_isinstance => k_is)
    (case z_len => k_is)
    (case z_list => k_is)
    (case z_min => k_is)
    (case z_range => k_is)
    (case z_str => k_is)
    (case z_sum => k_is)
    (case z_tuple => k_is)
    (case k_ROW_KINDS => k_is)
    (case lt_ROW_KINDS => k_is)
    (case a_is_whole => k_is)
    (case l_is_whole => k_is)
    (case q_is_whole => k_is)
    (case p_is_whole => k_is)
    (case a_whole_in => k_is)
    (case l_whole_in => k_is)
    (case q_whole_in => k_is)
    (case p_whole_in => k_is)
    (case a_is_bit => k_is)
    (case l_is_bit => k_is)
    (case q_is_bit => k_is)
    (case p_is_bit => k_is)
    (case a_check_row => k_is)
    (case l_check_row => k_is)
    (case q_check_row => k_is)
    (case p_check_row => k_is)
    (case a_checked_bits => k_is)
    (case l_checked_bits => k_is)
    (case q_checked_bits => k_is)
    (case p_checked_bits => k_is)
    (case a_delayed => k_is)
    (case l_delayed => k_is)
    (case q_delayed => k_is)
    (case p_delayed => k_is)
    (case a_checked_clocks => k_is)
    (case l_checked_clocks => k_is)
    (case q_checked_clocks => k_is)
    (case p_checked_clocks => k_is)
    (case a_check_timer_row => k_is)
    (case l_check_timer_row => k_is)
    (case q_check_timer_row => k_is)
    (case p_check_timer_row => k_is)
    (case a_check_delay => k_is)
    (case l_check_delay => k_is)
    (case q_check_delay => k_is)
    (case p_check_delay => k_is)
    (case a_through_clock => k_is)
    (case l_through_clock => k_is)
    (case q_through_clock => k_is)
    (case p_through_clock => k_is)
    (case a_row_bits => k_is)
    (case l_row_bits => k_is)
    (case q_row_bits => k_is)
    (case p_row_bits => k_is)
    (case a_rule_here => k_is)
    (case l_rule_here => k_is)
    (case q_rule_here => k_is)
    (case p_rule_here => k_is)
    (case a_usable_rules => k_is)
    (case l_usable_rules => k_is)
    (case q_usable_rules => k_is)
    (case p_usable_rules => k_is)
    (case a_first_rule => k_is)
    (case l_first_rule => k_is)
    (case q_first_rule => k_is)
    (case p_first_rule => k_is)
    (case a_ruled => k_is)
    (case l_ruled => k_is)
    (case q_ruled => k_is)
    (case p_ruled => k_is)
    (case a_normal_clocks => k_is)
    (case l_normal_clocks => k_is)
    (case q_normal_clocks => k_is)
    (case p_normal_clocks => k_is)
    (case a_normal => k_is)
    (case l_normal => k_is)
    (case q_normal => k_is)
    (case p_normal => k_is)
    (case kn_normal_delay => k_is)
    (case a_one_rule => k_is)
    (case l_one_rule => k_is)
    (case q_one_rule => k_is)
    (case p_one_rule => k_is)
    (case a_rules_at => k_is)
    (case l_rules_at => k_is)
    (case q_rules_at => k_is)
    (case p_rules_at => k_is)
    (case a_use => k_is)
    (case l_use => k_is)
    (case q_use => k_is)
    (case p_use => k_is)
    (case a_law_numbers => k_is)
    (case l_law_numbers => k_is)
    (case q_law_numbers => k_is)
    (case p_law_numbers => k_is)
    (case a_law_draw => k_is)
    (case l_law_draw => k_is)
    (case q_law_draw => k_is)
    (case p_law_draw => k_is)
    (case a_law_int => k_is)
    (case l_law_int => k_is)
    (case q_law_int => k_is)
    (case p_law_int => k_is)
    (case a_law_bits_ok => k_is)
    (case l_law_bits_ok => k_is)
    (case q_law_bits_ok => k_is)
    (case p_law_bits_ok => k_is)
    (case a_law_clocks => k_is)
    (case l_law_clocks => k_is)
    (case q_law_clocks => k_is)
    (case p_law_clocks => k_is)
    (case a_law_runs => k_is)
    (case l_law_runs => k_is)
    (case q_law_runs => k_is)
    (case p_law_runs => k_is)
    (case a_law_out => k_is)
    (case l_law_out => k_is)
    (case q_law_out => k_is)
    (case p_law_out => k_is)
    (case a_law_rule => k_is)
    (case l_law_rule => k_is)
    (case q_law_rule => k_is)
    (case p_law_rule => k_is)
    (case a_law_rules => k_is)
    (case l_law_rules => k_is)
    (case q_law_rules => k_is)
    (case p_law_rules => k_is)
    (case a_law_behind => k_is)
    (case l_law_behind => k_is)
    (case q_law_behind => k_is)
    (case p_law_behind => k_is)
    (case a_law_sums => k_is)
    (case l_law_sums => k_is)
    (case q_law_sums => k_is)
    (case p_law_sums => k_is)
    (case a_law_pair_told => k_is)
    (case l_law_pair_told => k_is)
    (case q_law_pair_told => k_is)
    (case p_law_pair_told => k_is)
    (case a_law_first => k_is)
    (case l_law_first => k_is)
    (case q_law_first => k_is)
    (case p_law_first => k_is)
    (case a_law_listed => k_is)
    (case l_law_listed => k_is)
    (case q_law_listed => k_is)
    (case p_law_listed => k_is)
    (case a_law_turn => k_is)
    (case l_law_turn => k_is)
    (case q_law_turn => k_is)
    (case p_law_turn => k_is)
    (case a_law_word => k_is)
    (case l_law_word => k_is)
    (case q_law_word => k_is)
    (case p_law_word => k_is)
    (case a_law_refusals => k_is)
    (case l_law_refusals => k_is)
    (case q_law_refusals => k_is)
    (case p_law_refusals => k_is)
    (case a_law => k_is)
    (case l_law => k_is)
    (case q_law => k_is)
    (case p_law => k_is)
    (case a_c_BadNumber => k_is)
    (case xL_BadNumber => k_is)
    (case sa_BadNumber => k_is)
    (case ga_BadNumber => k_is)
    (case gg_BadNumber => k_is)
    (case n_BadNumber_word => k_is)
    (case in_BadNumber => k_is)
    (case ti_BadNumber => k_is)
    (case l_IBadNumber => k_is)
    (case q_IBadNumber => k_is)
    (case p_IBadNumber => k_is)
    (case kC_BadNumber => k_is)
    (case eC_BadNumber => k_is)
    (case tC_BadNumber => k_is)
    (case hC_BadNumber => k_is)
    (case iC_BadNumber => k_is)
    (case a_c_BadRow => k_is)
    (case xL_BadRow => k_is)
    (case sa_BadRow => k_is)
    (case ga_BadRow => k_is)
    (case gg_BadRow => k_is)
    (case n_BadRow_place => k_is)
    (case in_BadRow => k_is)
    (case ti_BadRow => k_is)
    (case l_IBadRow => k_is)
    (case q_IBadRow => k_is)
    (case p_IBadRow => k_is)
    (case kC_BadRow => k_is)
    (case eC_BadRow => k_is)
    (case tC_BadRow => k_is)
    (case hC_BadRow => k_is)
    (case iC_BadRow => k_is)
    (case s_BadNumber_BadNumber => k_is)
    (case s_BadRow_BadNumber => k_is)
    (case s_BadNumber_BadRow => k_is)
    (case s_BadRow_BadRow => k_is)
#print axioms PySem.Challenge.cw_guardrungs_k24_rules_holds

