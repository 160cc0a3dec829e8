import PyProof.Rows.All
import Wide.All
import OpenK.AllK
import Wide.FinOn
import HandS.ForMost
import HandS.Exc
import HandS.IsInst
import HandS.TupAny
import HandS.Walk
import HandS.Sort
import HandS.WordsExc
import HandS.ExcOwn
import HandS.ExcInit
import HandS.ExcField
import HandS.TryMany
import HandS.Gcd
import HandS.TupMul
import HandS.SortRule
import HandS.AnyAll
import HandS.TryOnly
import KE.GoesEnum
import PySem.Challenge.RW_guardrungs_k78_load_and_dividing_periods
set_option Elab.async false
set_option linter.all false
set_option maxRecDepth 100000
set_option maxHeartbeats 1000000
/-! Gv: values told by what they mean, slots, own cells -/
namespace Gv
open PySem L2

/-! ### outcomes -/
structure Er where
  c : Str
  fs : List (Str × PyData)
inductive O (ρ lam α : Type) where
  | nx (a : α) | rt (r : ρ) | bk (l : lam) | ct (l : lam) | er (x : Er) | stuck
abbrev R (α : Type) := O Empty Empty α
def O.bind {ρ lam α β : Type} (m : O ρ lam α) (f : α → O ρ lam β) : O ρ lam β :=
  match m with
  | .nx a => f a | .rt r => .rt r | .bk l => .bk l | .ct l => .ct l | .er x => .er x | .stuck => .stuck
/-- a computation of a value, then what follows -/
def bindR {ρ lam α β : Type} (m : R α) (f : α → O ρ lam β) : O ρ lam β :=
  match m with
  | .nx a => f a | .rt r => r.elim | .bk l => l.elim | .ct l => l.elim | .er x => .er x | .stuck => .stuck
def lt {β γ : Type} (e : β) (f : β → γ) : γ := f e
/-- a def's body is at its end -/
def fin {ρ α : Type} (m : O ρ Empty α) (d : α → R ρ) : R ρ :=
  match m with
  | .nx a => d a | .rt r => .nx r | .bk l => l.elim | .ct l => l.elim | .er x => .er x | .stuck => .stuck
/-- a for over items -/
def forO {ρ lam σ β : Type} (f : σ → β → O ρ σ σ) : List β → σ → O ρ lam σ
  | [], s => .nx s
  | x :: xs, s => match f s x with
    | .nx s' => forO f xs s' | .ct s' => forO f xs s' | .bk s' => .nx s' | .rt r => .rt r | .er x => .er x | .stuck => .stuck
/-- a while, at most so many turns -/
def whileO {ρ lam σ : Type} (c : σ → R (σ × Bool)) (f : σ → O ρ σ σ) : Nat → σ → O ρ lam σ
  | 0, _ => .stuck
  | n + 1, s => bindR (c s) fun sb => if sb.2 then (match f sb.1 with
    | .nx s' => whileO c f n s' | .ct s' => whileO c f n s' | .bk s' => .nx s' | .rt r => .rt r | .er x => .er x | .stuck => .stuck) else .nx sb.1
/-- a comprehension; nothing may be raised in it -/
def lcR {σ β γ : Type} (f : σ → β → R (σ × Option γ)) : List β → σ → List γ → R (σ × List γ)
  | [], s, acc => .nx (s, acc)
  | x :: xs, s, acc => match f s x with
    | .nx (s', none) => lcR f xs s' acc
    | .nx (s', some y) => if acc.length < 1000000 then lcR f xs s' (acc ++ [y]) else .stuck
    | _ => .stuck

def Out {ρ lam α : Type} (m : O ρ lam α) (N : α → Prop) (T : ρ → Prop) (B C : lam → Prop) (E : Er → Prop) : Prop :=
  match m with
  | .nx a => N a | .rt r => T r | .bk l => B l | .ct l => C l | .er x => E x | .stuck => False
def OutR {α : Type} (m : R α) (N : α → Prop) (E : Er → Prop) : Prop :=
  match m with
  | .nx a => N a | .rt r => r.elim | .bk l => l.elim | .ct l => l.elim | .er x => E x | .stuck => False
section
variable {ρ lam α β : Type} {N : α → Prop} {N' : β → Prop} {T : ρ → Prop} {B C : lam → Prop} {E : Er → Prop}
theorem Out.bindR {m : R α} {f : α → O ρ lam β} (h : Out (Gv.bindR m f) N' T B C E) : OutR m (fun a => Out (f a) N' T B C E) E := by
  cases m <;> first | exact h | (rename_i z; exact z.elim)
theorem Out.bind {m : O ρ lam α} {f : α → O ρ lam β} (h : Out (m.bind f) N' T B C E) : Out m (fun a => Out (f a) N' T B C E) T B C E := by
  cases m <;> exact h
theorem Out.lt {e : α} {f : α → O ρ lam β} (h : Out (Gv.lt e f) N' T B C E) : Out (f e) N' T B C E := h
theorem OutR.out {m : R α} {T : Empty → Prop} {B C : Empty → Prop} (h : OutR m N E) : Out m N T B C E := by
  cases m <;> first | exact h | (rename_i z; exact z.elim)
theorem Out.outR {m : R α} {T : Empty → Prop} {B C : Empty → Prop} (h : Out m N T B C E) : OutR m N E := by
  cases m <;> first | exact h | (rename_i z; exact z.elim)
theorem OutR.imp {m : R α} {N1 : α → Prop} {E1 : Er → Prop} (h : OutR m N E) (hn : ∀ a, N a → N1 a) (he : ∀ x, E x → E1 x) : OutR m N1 E1 := by
  cases m <;> first | exact hn _ h | exact he _ h | exact h | (rename_i z; exact z.elim)
theorem Out.imp {m : O ρ lam α} {N1 : α → Prop} {T1 : ρ → Prop} {B1 C1 : lam → Prop} {E1 : Er → Prop} (h : Out m N T B C E) (hn : ∀ a, N a → N1 a) (ht : ∀ a, T a → T1 a) (hb : ∀ a, B a → B1 a) (hc : ∀ a, C a → C1 a) (he : ∀ x, E x → E1 x) : Out m N1 T1 B1 C1 E1 := by
  cases m <;> first | exact hn _ h | exact ht _ h | exact hb _ h | exact hc _ h | exact he _ h | exact h
end

/-! ### what a value means -/
abbrev VP := PySem.W.Frag → V → Hp → Prop
def Hd (K : PySem.W.Frag) (p : VP) (v : V) (S : Hp) : Prop := ∃ S0, Same S0 S ∧ p K v S0
theorem Hd.mono {K : PySem.W.Frag} {p : VP} {v : V} {S S' : Hp} (h : Hd K p v S) (e : Same S S') : Hd K p v S' := by
  obtain ⟨S0, a, b⟩ := h
  exact ⟨S0, a.trans e, b⟩
theorem Hd.of {K : PySem.W.Frag} {p : VP} {v : V} {S : Hp} (h : p K v S) : Hd K p v S := ⟨S, Same.refl S, h⟩

abbrev Hds (K : PySem.W.Frag) (S : Hp) : List VP → List V → Prop := Paired fun p v => Hd K p v S
theorem Hds.mono {K : PySem.W.Frag} {ps : List VP} {vs : List V} {S S' : Hp} (h : Hds K S ps vs) (e : Same S S') : Hds K S' ps vs := Paired.mapP h fun _ _ q => q.mono e

inductive Cell where
  | lst (ps : List VP)
  | dk (kvs : List (Key × VP))
def CellOk (K : PySem.W.Frag) (S : Hp) : Cell → HO → Prop
  | .lst ps, o => ∃ vs, o = .lst vs ∧ Hds K S ps vs
  | .dk kvs, o => ∃ vs, o = .dK vs ∧ Paired (fun (p : Key × VP) (v : Key × V) => p.1 = v.1 ∧ Hd K p.2 v.2 S) kvs vs
theorem CellOk.mono {K : PySem.W.Frag} {S S' : Hp} (e : Same S S') : ∀ {c : Cell} {o : HO}, CellOk K S c o → CellOk K S' c o
  | .lst _, _, ⟨vs, h, q⟩ => ⟨vs, h, q.mono e⟩
  | .dk _, _, ⟨vs, h, q⟩ => ⟨vs, h, Paired.mapP q fun _ _ z => ⟨z.1, z.2.mono e⟩⟩

inductive Tm where
  | dat (p : VP)
  | own (oa : Option Addr) (c : Cell)
  | als (i : Nat)
  | bad

structure Gh where
  S0 : Hp
  F : Hp

structure Base (g : Gh) (S H : Hp) : Prop where
  s0 : Same g.S0 S
  sh : Same S H
  fh : Same g.F H
  fs : ∀ b, g.F b ≠ none → g.S0 b = none → S b = none

def OwnAt (K : PySem.W.Frag) (g : Gh) (S H : Hp) (v : V) (oa : Option Addr) (c : Cell) : Prop :=
  ∃ a o, v = .ref a ∧ (∀ b, oa = some b → b = a) ∧ S a = none ∧ g.F a = none ∧ H a = some o ∧ CellOk K S c o
def One (K : PySem.W.Frag) (g : Gh) (S H : Hp) (σ : St) (x : V × Tm) : Prop :=
  match x.2 with
  | .dat p => Hd K p x.1 S
  | .own oa c => OwnAt K g S H x.1 oa c
  | .als i => σ[i]? = some (some x.1)
  | .bad => False
def addrs : List (V × Tm) → List Addr
  | [] => []
  | (.ref a, .own _ _) :: r => a :: addrs r
  | _ :: r => addrs r
def pack : St → List (Option Tm) → List (V × Tm)
  | _, [] => []
  | σ, none :: Γ => pack σ.tail Γ
  | some v :: σ, some t :: Γ => (v, t) :: pack σ Γ
  | none :: σ, some _ :: Γ => (.non, .bad) :: pack σ Γ
  | [], some _ :: Γ => (.non, .bad) :: pack [] Γ

structure AtS (K : PySem.W.Frag) (g : Gh) (S : Hp) (Γ : List (Option Tm)) (σ : St) (τ : List (V × Tm)) (H : Hp) : Prop where
  base : Base g S H
  len : Γ.length ≤ σ.length
  all : ∀ x ∈ pack σ Γ ++ τ, One K g S H σ x
  ns : ∀ x ∈ pack σ Γ, ∀ j, x.2 ≠ .als j
  al : ∀ x ∈ τ, ∀ k, x.2 = .als k → ∃ oa c, Γ[k]? = some (some (.own oa c))
  nd : (addrs (pack σ Γ ++ τ)).Nodup
def At (K : PySem.W.Frag) (g : Gh) (Γ : List (Option Tm)) (σ : St) (τ : List (V × Tm)) (H : Hp) : Prop := ∃ S, AtS K g S Γ σ τ H

/-! ### lists of entries -/
theorem addrs_append : ∀ l m : List (V × Tm), addrs (l ++ m) = addrs l ++ addrs m
  | [], m => rfl
  | (v, t) :: l, m => by
    have ih := addrs_append l m
    cases v <;> cases t <;> simp [addrs, ih]
theorem addrs_perm {l m : List (V × Tm)} (h : l.Perm m) : (addrs l).Perm (addrs m) := by
  induction h with
  | nil => exact .nil
  | cons x _ ih =>
    obtain ⟨v, t⟩ := x
    cases v <;> cases t <;> simp only [addrs] <;> first | exact ih | exact ih.cons _
  | swap x y l =>
    obtain ⟨v, t⟩ := x
    obtain ⟨u, s⟩ := y
    cases v <;> cases t <;> cases u <;> cases s <;> simp only [addrs] <;> first | exact .refl _ | exact .swap _ _ _
  | trans _ _ a b => exact a.trans b
theorem addrs_sub {l m : List (V × Tm)} (h : l.Sublist m) : (addrs l).Sublist (addrs m) := by
  induction h with
  | slnil => exact .slnil
  | cons x _ ih =>
    obtain ⟨v, t⟩ := x
    cases v <;> cases t <;> simp only [addrs] <;> first | exact ih | exact ih.cons _
  | cons_cons x _ ih =>
    obtain ⟨v, t⟩ := x
    cases v <;> cases t <;> simp only [addrs] <;> first | exact ih | exact ih.cons_cons _
theorem addrs_mem {l : List (V × Tm)} {a : Addr} (h : a ∈ addrs l) : ∃ oa c, (V.ref a, Tm.own oa c) ∈ l := by
  induction l with
  | nil => simp [addrs] at h
  | cons x r ih =>
    obtain ⟨v, t⟩ := x
    have go : a ∈ addrs r → ∃ oa c, (V.ref a, Tm.own oa c) ∈ (v, t) :: r := fun h => by
      obtain ⟨oa, c, q⟩ := ih h
      exact ⟨oa, c, List.mem_cons_of_mem _ q⟩
    cases v with
    | ref b =>
      cases t with
      | own oa c =>
        simp only [addrs, List.mem_cons] at h
        rcases h with rfl | h
        · exact ⟨oa, c, List.mem_cons_self⟩
        · exact go h
      | _ => exact go h
    | _ => cases t <;> exact go h
theorem mem_addrs {l : List (V × Tm)} {a : Addr} {oa : Option Addr} {c : Cell} (h : (V.ref a, Tm.own oa c) ∈ l) : a ∈ addrs l := by
  induction l with
  | nil => simp at h
  | cons x r ih =>
    rcases List.mem_cons.mp h with e | h
    · subst e; simp [addrs]
    · have := ih h
      obtain ⟨v, t⟩ := x
      cases v <;> cases t <;> simp [addrs, this]

/-! ### slots -/
theorem pack_get : ∀ {Γ : List (Option Tm)} {σ : St} {i : Nat} {t : Tm}, Γ[i]? = some (some t) → Γ.length ≤ σ.length →
    (∃ v, σ[i]? = some (some v) ∧ (pack σ Γ).Perm ((v, t) :: pack σ (Γ.set i none))) ∨ (V.non, Tm.bad) ∈ pack σ Γ
  | [], _, _, _, h, _ => by simp at h
  | x :: Γ, [], _, _, _, l => by simp at l
  | x :: Γ, y :: σ, 0, t, h, l => by
    simp only [List.getElem?_cons_zero, Option.some.injEq] at h
    subst h
    cases y with
    | none => exact .inr (by simp [pack])
    | some v => exact .inl ⟨v, by simp, by simp [pack]⟩
  | x :: Γ, y :: σ, i + 1, t, h, l => by
    have h' : Γ[i]? = some (some t) := by simpa using h
    have l' : Γ.length ≤ σ.length := by simpa using l
    rcases pack_get h' l' with ⟨v, e, p⟩ | b
    · refine .inl ⟨v, by simpa using e, ?_⟩
      cases x with
      | none => simpa [pack] using p
      | some u =>
        cases y with
        | none => exact (List.Perm.cons _ p).trans (.swap _ _ _)
        | some z => exact (List.Perm.cons _ p).trans (.swap _ _ _)
    · refine .inr ?_
      cases x with
      | none => simpa [pack] using b
      | some u => cases y <;> simp [pack, b]
theorem pack_drop : ∀ (Γ : List (Option Tm)) (σ : St) (i : Nat), (pack σ (Γ.set i none)).Sublist (pack σ Γ)
  | [], σ, i => by simp [pack]
  | x :: Γ, [], 0 => by
    cases x with
    | none => simp [pack]
    | some u => simp [pack]
  | x :: Γ, y :: σ, 0 => by
    cases x with
    | none => simp [pack]
    | some u => cases y <;> simp [pack]
  | x :: Γ, [], i + 1 => by
    have := pack_drop Γ [] i
    cases x with
    | none => simpa [pack] using this
    | some u => simpa [pack] using this
  | x :: Γ, y :: σ, i + 1 => by
    have := pack_drop Γ σ i
    cases x with
    | none => simpa [pack] using this
    | some u => cases y <;> simpa [pack] using this
theorem pack_set : ∀ {Γ : List (Option Tm)} {σ : St} {i : Nat} (v : V) (t : Tm), i < Γ.length → Γ.length ≤ σ.length →
    (pack (σ.set i (some v)) (Γ.set i (some t))).Perm ((v, t) :: pack σ (Γ.set i none))
  | [], _, _, _, _, h, _ => by simp at h
  | x :: Γ, [], _, _, _, _, l => by simp at l
  | x :: Γ, y :: σ, 0, v, t, _, _ => by simp [pack]
  | x :: Γ, y :: σ, i + 1, v, t, h, l => by
    have ih := pack_set (Γ := Γ) (σ := σ) (i := i) v t (by simpa using h) (by simpa using l)
    cases x with
    | none => simpa [pack] using ih
    | some u =>
      cases y with
      | none => exact (List.Perm.cons _ ih).trans (.swap _ _ _)
      | some z => exact (List.Perm.cons _ ih).trans (.swap _ _ _)
theorem pack_none : ∀ (Γ : List (Option Tm)) (σ : St) (i : Nat) (x : Option V), pack (σ.set i x) (Γ.set i none) = pack σ (Γ.set i none)
  | [], σ, i, x => by simp [pack]
  | y :: Γ, [], i, x => by simp
  | y :: Γ, z :: σ, 0, x => by simp [pack]
  | y :: Γ, z :: σ, i + 1, x => by
    have ih := pack_none Γ σ i x
    cases y with
    | none => simpa [pack] using ih
    | some u => cases z <;> simpa [pack] using ih

/-- less is told -/
inductive Le : List (Option Tm) → List (Option Tm) → Prop
  | nil {G : List (Option Tm)} : Le [] G
  | s {x : Option Tm} {G G' : List (Option Tm)} : Le G G' → Le (x :: G) (x :: G')
  | d {x : Option Tm} {G G' : List (Option Tm)} : Le G G' → Le (none :: G) (x :: G')

/-! ### the laws of At -/
section
variable {K : PySem.W.Frag} {g : Gh} {S H : Hp} {Γ : List (Option Tm)} {σ : St} {τ : List (V × Tm)} {v : V} {t : Tm} {p : VP} {ps : List VP} {i : Nat}
theorem One.keep {H' S' : Hp} (e : Same S S') (k : ∀ a, (∃ oa c, t = .own oa c) → v = .ref a → S' a = S a ∧ H' a = H a) (h : One K g S H σ (v, t)) : One K g S' H' σ (v, t) := by
  cases t with
  | dat p => exact Hd.mono h e
  | own oa c =>
    obtain ⟨a, o, rfl, h1, h2, h3, h4, h5⟩ := h
    obtain ⟨k1, k2⟩ := k a ⟨_, _, rfl⟩ rfl
    exact ⟨a, o, rfl, h1, k1.trans h2, h3, k2.trans h4, h5.mono e⟩
  | als i => exact h
  | bad => exact h

theorem AtS.perm {τ' : List (V × Tm)} (h : AtS K g S Γ σ τ H) (p : τ.Perm τ') : AtS K g S Γ σ τ' H :=
  ⟨h.base, h.len, fun x hx => h.all x ((p.append_left _).mem_iff.mpr hx), h.ns, fun x hx => h.al x (p.mem_iff.mpr hx), (addrs_perm (p.append_left _)).nodup_iff.mp h.nd⟩
theorem AtS.pop {x : V × Tm} (h : AtS K g S Γ σ (x :: τ) H) : AtS K g S Γ σ τ H := by
  have sub : (pack σ Γ ++ τ).Sublist (pack σ Γ ++ x :: τ) := List.Sublist.append_left (List.sublist_cons_self _ _) _
  exact ⟨h.base, h.len, fun y hy => h.all y (sub.subset hy), h.ns, fun y hy => h.al y (List.mem_cons_of_mem _ hy), h.nd.sublist (addrs_sub sub)⟩
theorem At.pop {x : V × Tm} (h : At K g Γ σ (x :: τ) H) : At K g Γ σ τ H := by
  obtain ⟨S, h⟩ := h
  exact ⟨S, h.pop⟩
theorem At.pop2 {x y : V × Tm} (h : At K g Γ σ (x :: y :: τ) H) : At K g Γ σ τ H := h.pop.pop
theorem AtS.top (h : AtS K g S Γ σ ((v, t) :: τ) H) : One K g S H σ (v, t) := h.all _ (by simp)
theorem AtS.push (h : AtS K g S Γ σ τ H) (q : Hd K p v S) : AtS K g S Γ σ ((v, .dat p) :: τ) H := by
  refine ⟨h.base, h.len, fun x hx => ?_, h.ns, fun x hx k e => ?_, ?_⟩
  · rcases List.mem_append.mp hx with hx | hx
    · exact h.all x (List.mem_append_left _ hx)
    · rcases List.mem_cons.mp hx with rfl | hx
      · exact q
      · exact h.all x (List.mem_append_right _ hx)
  · rcases List.mem_cons.mp hx with rfl | hx
    · cases e
    · exact h.al x hx k e
  · have e : addrs (pack σ Γ ++ (v, Tm.dat p) :: τ) = addrs (pack σ Γ ++ τ) := by
      rw [addrs_append, addrs_append]
      cases v <;> simp [addrs]
    rw [e]
    exact h.nd
theorem AtS.pushAls {oa : Option Addr} {c : Cell} (h : AtS K g S Γ σ τ H) (q : σ[i]? = some (some v)) (hg : Γ[i]? = some (some (.own oa c))) : AtS K g S Γ σ ((v, .als i) :: τ) H := by
  refine ⟨h.base, h.len, fun x hx => ?_, h.ns, fun x hx k e => ?_, ?_⟩
  · rcases List.mem_append.mp hx with hx | hx
    · exact h.all x (List.mem_append_left _ hx)
    · rcases List.mem_cons.mp hx with rfl | hx
      · exact q
      · exact h.all x (List.mem_append_right _ hx)
  · rcases List.mem_cons.mp hx with rfl | hx
    · cases e
      exact ⟨oa, c, hg⟩
    · exact h.al x hx k e
  · have e : addrs (pack σ Γ ++ (v, Tm.als i) :: τ) = addrs (pack σ Γ ++ τ) := by
      rw [addrs_append, addrs_append]
      cases v <;> simp [addrs]
    rw [e]
    exact h.nd
theorem AtS.slot (h : AtS K g S Γ σ τ H) (e : Γ[i]? = some (some t)) : ∃ v, σ[i]? = some (some v) ∧ One K g S H σ (v, t) ∧ (pack σ Γ).Perm ((v, t) :: pack σ (Γ.set i none)) := by
  rcases pack_get e h.len with ⟨v, h1, h2⟩ | b
  · exact ⟨v, h1, h.all _ (List.mem_append_left _ (h2.mem_iff.mpr List.mem_cons_self)), h2⟩
  · exact (h.all _ (List.mem_append_left _ b)).elim
/-- an object is laid and belongs to what stands still -/
theorem AtS.lay {a : Addr} {o : HO} (h : AtS K g S Γ σ τ H) (n : H a = none) : AtS K g (upd S a o) Γ σ τ (upd H a o) := by
  have nS : S a = none := by
    cases e : S a with
    | none => rfl
    | some u => rw [h.base.sh a u e] at n; cases n
  have nF : g.F a = none := by
    cases e : g.F a with
    | none => rfl
    | some u => rw [h.base.fh a u e] at n; cases n
  have e1 : Same S (upd S a o) := fun b u e => by rw [upd_ne (ne_of_none e nS)]; exact e
  refine ⟨⟨h.base.s0.trans e1, fun b u e => ?_, fun b u e => ?_, fun b hb h0 => ?_⟩, h.len, fun x hx => ?_, h.ns, h.al, h.nd⟩
  · by_cases hb : b = a
    · subst hb; rw [upd_same] at e ⊢; exact e
    · rw [upd_ne hb] at e ⊢; exact h.base.sh b u e
  · rw [upd_ne (ne_of_none e nF)]; exact h.base.fh b u e
  · have : b ≠ a := fun z => hb (z ▸ nF)
    rw [upd_ne this]; exact h.base.fs b hb h0
  · obtain ⟨v, t⟩ := x
    have q := h.all _ hx
    refine q.keep e1 fun b ht hv => ?_
    obtain ⟨oa, c, rfl⟩ := ht
    subst hv
    obtain ⟨a', o', ea, _, _, _, h4, _⟩ := q
    cases ea
    have : b ≠ a := ne_of_none h4 n
    rw [upd_ne this, upd_ne this]
    exact ⟨rfl, rfl⟩
/-- a new own cell -/
theorem AtS.freshA {a : Addr} {o : HO} {c : Cell} {oa : Option Addr} (hoa : ∀ b, oa = some b → b = a) (h : AtS K g S Γ σ τ H) (n : H a = none) (k : CellOk K S c o) : AtS K g S Γ σ ((.ref a, .own oa c) :: τ) (upd H a o) := by
  have nS : S a = none := by
    cases e : S a with
    | none => rfl
    | some u => rw [h.base.sh a u e] at n; cases n
  have nF : g.F a = none := by
    cases e : g.F a with
    | none => rfl
    | some u => rw [h.base.fh a u e] at n; cases n
  have old : ∀ x ∈ pack σ Γ ++ τ, One K g S (upd H a o) σ x := fun x hx => by
    obtain ⟨v, t⟩ := x
    have q := h.all _ hx
    refine q.keep (Same.refl S) fun b ht hv => ⟨rfl, ?_⟩
    obtain ⟨oa', c', rfl⟩ := ht
    subst hv
    obtain ⟨a', o', ea, _, _, _, h4, _⟩ := q
    cases ea
    exact upd_ne (ne_of_none h4 n)
  refine ⟨⟨h.base.s0, fun b u e => ?_, fun b u e => ?_, h.base.fs⟩, h.len, fun x hx => ?_, h.ns, fun x hx k e => ?_, ?_⟩
  · rw [upd_ne (ne_of_none e nS)]; exact h.base.sh b u e
  · rw [upd_ne (ne_of_none e nF)]; exact h.base.fh b u e
  · rcases List.mem_append.mp hx with hx | hx
    · exact old x (List.mem_append_left _ hx)
    · rcases List.mem_cons.mp hx with rfl | hx
      · exact ⟨a, o, rfl, hoa, nS, nF, upd_same, k⟩
      · exact old x (List.mem_append_right _ hx)
  · rcases List.mem_cons.mp hx with rfl | hx
    · cases e
    · exact h.al x hx k e
  · have p : (pack σ Γ ++ (V.ref a, Tm.own oa c) :: τ).Perm ((V.ref a, Tm.own oa c) :: (pack σ Γ ++ τ)) := List.perm_middle
    refine (addrs_perm p).nodup_iff.mpr ?_
    show (a :: addrs (pack σ Γ ++ τ)).Nodup
    refine List.nodup_cons.mpr ⟨fun hm => ?_, h.nd⟩
    obtain ⟨oa', c', hx⟩ := addrs_mem hm
    obtain ⟨a', o', ea, _, _, _, h4, _⟩ := h.all _ hx
    cases ea
    rw [n] at h4; cases h4
theorem AtS.fresh {a : Addr} {o : HO} {c : Cell} (h : AtS K g S Γ σ τ H) (n : H a = none) (k : CellOk K S c o) : AtS K g S Γ σ ((.ref a, .own none c) :: τ) (upd H a o) :=
  h.freshA (fun b z => nomatch z) n k
/-- the own cell on top stands still from now on -/
theorem AtS.freeze {oa : Option Addr} {c : Cell} (h : AtS K g S Γ σ ((v, .own oa c) :: τ) H) :
    ∃ a o, v = .ref a ∧ H a = some o ∧ S a = none ∧ CellOk K S c o ∧ AtS K g (upd S a o) Γ σ τ H := by
  obtain ⟨a, o, rfl, h1, nS, nF, h4, h5⟩ := h.top
  refine ⟨a, o, rfl, h4, nS, h5, ?_⟩
  have e1 : Same S (upd S a o) := fun b u e => by rw [upd_ne (ne_of_none e nS)]; exact e
  have p : (pack σ Γ ++ (V.ref a, Tm.own oa c) :: τ).Perm ((V.ref a, Tm.own oa c) :: (pack σ Γ ++ τ)) := List.perm_middle
  have nd : (a :: addrs (pack σ Γ ++ τ)).Nodup := (addrs_perm p).nodup_iff.mp h.nd
  obtain ⟨n1, n2⟩ := List.nodup_cons.mp nd
  refine ⟨⟨h.base.s0.trans e1, fun b u e => ?_, h.base.fh, fun b hb h0 => ?_⟩, h.len, fun x hx => ?_, h.ns, fun x hx => h.al x (List.mem_cons_of_mem _ hx), n2⟩
  · by_cases hb : b = a
    · subst hb; rw [upd_same] at e; rw [← e]; exact h4
    · rw [upd_ne hb] at e; exact h.base.sh b u e
  · have : b ≠ a := fun z => hb (z ▸ nF)
    rw [upd_ne this]; exact h.base.fs b hb h0
  · obtain ⟨v, t⟩ := x
    have q := h.all _ (p.mem_iff.mpr (List.mem_cons_of_mem _ hx))
    refine q.keep e1 fun b ht hv => ⟨?_, rfl⟩
    obtain ⟨oa', c', rfl⟩ := ht
    subst hv
    exact upd_ne fun z => n1 (by rw [← z]; exact mem_addrs hx)
/-- the cell of slot i is changed -/
theorem AtS.write {oa : Option Addr} {c c' : Cell} {o' : HO} (h : AtS K g S Γ σ τ H) (e : Γ[i]? = some (some (.own oa c))) (k : CellOk K S c' o') :
    ∃ a o, σ[i]? = some (some (.ref a)) ∧ H a = some o ∧ CellOk K S c o ∧ AtS K g S (Γ.set i (some (.own oa c'))) σ τ (upd H a o') := by
  obtain ⟨v, e1, q, p⟩ := h.slot e
  obtain ⟨a, o, rfl, h1, nS, nF, h4, h5⟩ := q
  refine ⟨a, o, e1, h4, h5, ?_⟩
  have hi : i < Γ.length := (List.getElem?_eq_some_iff.mp e).1
  have p1 : (pack σ Γ ++ τ).Perm ((V.ref a, Tm.own oa c) :: (pack σ (Γ.set i none) ++ τ)) := List.Perm.append_right τ p
  have hs : σ.set i (some (.ref a)) = σ := by
    apply List.ext_getElem?
    intro j
    by_cases hj : i = j
    · subst hj
      rw [List.getElem?_set_self (List.getElem?_eq_some_iff.mp e1).1, e1]
    · rw [List.getElem?_set_ne hj]
  have p2 : (pack σ (Γ.set i (some (.own oa c'))) ++ τ).Perm ((V.ref a, Tm.own oa c') :: (pack σ (Γ.set i none) ++ τ)) := by
    have := List.Perm.append_right τ (pack_set (Γ := Γ) (σ := σ) (i := i) (V.ref a) (.own oa c') hi h.len)
    rw [hs] at this
    exact this
  have nd : (a :: addrs (pack σ (Γ.set i none) ++ τ)).Nodup := (addrs_perm p1).nodup_iff.mp h.nd
  obtain ⟨n1, n2⟩ := List.nodup_cons.mp nd
  refine ⟨⟨h.base.s0, fun b u z => ?_, fun b u z => ?_, h.base.fs⟩, by rw [List.length_set]; exact h.len, fun x hx => ?_, fun x hx j => ?_, fun x hx j ej => ?_, (addrs_perm p2).nodup_iff.mpr nd⟩
  · rw [upd_ne (ne_of_none z nS)]; exact h.base.sh b u z
  · rw [upd_ne (ne_of_none z nF)]; exact h.base.fh b u z
  · rcases List.mem_cons.mp (p2.mem_iff.mp hx) with rfl | hx
    · exact ⟨a, o', rfl, h1, nS, nF, upd_same, k⟩
    · obtain ⟨v, t⟩ := x
      have q := h.all _ (p1.mem_iff.mpr (List.mem_cons_of_mem _ hx))
      refine q.keep (Same.refl S) fun b ht hv => ⟨rfl, ?_⟩
      obtain ⟨oa', c'', rfl⟩ := ht
      subst hv
      exact upd_ne fun z => n1 (by rw [← z]; exact mem_addrs hx)
  · have q := pack_set (Γ := Γ) (σ := σ) (i := i) (V.ref a) (.own oa c') hi h.len
    rw [hs] at q
    rcases List.mem_cons.mp (q.mem_iff.mp hx) with rfl | hx
    · intro z; cases z
    · exact h.ns x ((pack_drop Γ σ i).subset hx) j
  · obtain ⟨oa2, c2, e2⟩ := h.al x hx j ej
    by_cases hj : i = j
    · subst hj
      exact ⟨oa, c', List.getElem?_set_self hi⟩
    · exact ⟨oa2, c2, by rw [List.getElem?_set_ne hj]; exact e2⟩
/-- slot i takes the value on top; nothing else on the stack stands for slot i -/
theorem AtS.set (h : AtS K g S Γ σ ((v, t) :: τ) H) (hi : i < Γ.length) (ht : ∀ j, t ≠ .als j) (hτ : ∀ x ∈ τ, ∀ k, x.2 = .als k → k ≠ i) : AtS K g S (Γ.set i (some t)) (σ.set i (some v)) τ H := by
  have p := pack_set (Γ := Γ) (σ := σ) (i := i) v t hi h.len
  have sub : ((v, t) :: (pack σ (Γ.set i none) ++ τ)).Sublist ((v, t) :: (pack σ Γ ++ τ)) := ((pack_drop Γ σ i).append_right τ).cons_cons _
  have p2 : (pack σ Γ ++ (v, t) :: τ).Perm ((v, t) :: (pack σ Γ ++ τ)) := List.perm_middle
  have p3 : (pack (σ.set i (some v)) (Γ.set i (some t)) ++ τ).Perm ((v, t) :: (pack σ (Γ.set i none) ++ τ)) := p.append_right τ
  refine ⟨h.base, by rw [List.length_set, List.length_set]; exact h.len, fun x hx => ?_, fun x hx j => ?_, fun x hx k e => ?_, ?_⟩
  · have hx2 := p3.mem_iff.mp hx
    have hx3 := p2.mem_iff.mpr (sub.subset hx2)
    have q := h.all x hx3
    obtain ⟨v', t'⟩ := x
    cases t' with
    | als j =>
      rcases List.mem_cons.mp hx2 with e | hm
      · cases e; exact absurd rfl (ht j)
      · rcases List.mem_append.mp hm with hm | hm
        · exact absurd rfl (h.ns _ ((pack_drop Γ σ i).subset hm) j)
        · have q' : σ[j]? = some (some v') := q
          show (σ.set i (some v))[j]? = some (some v')
          rw [List.getElem?_set_ne (Ne.symm (hτ _ hm j rfl))]; exact q'
    | dat _ => exact q
    | own _ _ => exact q
    | bad => exact q
  · rcases List.mem_cons.mp (p.mem_iff.mp hx) with rfl | hm
    · exact ht j
    · exact h.ns _ ((pack_drop Γ σ i).subset hm) j
  · obtain ⟨oa, c, q⟩ := h.al x (List.mem_cons_of_mem _ hx) k e
    exact ⟨oa, c, by rw [List.getElem?_set_ne (Ne.symm (hτ x hx k e))]; exact q⟩
  · exact (addrs_perm p3).nodup_iff.mpr (((addrs_perm p2).nodup_iff.mp h.nd).sublist (addrs_sub sub))
/-- a slot that nothing is told of may hold anything -/
theorem AtS.any (h : AtS K g S Γ σ τ H) (hn : Γ[i]? = some none ∨ Γ[i]? = none) (x : Option V) : AtS K g S Γ (σ.set i x) τ H := by
  have eΓ : Γ.set i none = Γ := by
    apply List.ext_getElem?
    intro j
    by_cases hj : i = j
    · subst hj
      rcases hn with hn | hn
      · rw [List.getElem?_set_self (List.getElem?_eq_some_iff.mp hn).1, hn]
      · rw [List.set_eq_of_length_le (List.getElem?_eq_none_iff.mp hn)]
    · rw [List.getElem?_set_ne hj]
  have e : pack (σ.set i x) Γ = pack σ Γ := by
    have := pack_none Γ σ i x
    rw [eΓ] at this
    exact this
  refine ⟨h.base, by rw [List.length_set]; exact h.len, fun y hy => ?_, by rw [e]; exact h.ns, h.al, by rw [e]; exact h.nd⟩
  rw [e] at hy
  have q := h.all y hy
  obtain ⟨v', t'⟩ := y
  cases t' with
  | als k =>
    show (σ.set i x)[k]? = some (some v')
    have q' : σ[k]? = some (some v') := q
    have hk : i ≠ k := fun z => by
      rcases List.mem_append.mp hy with hm | hm
      · exact h.ns _ hm k rfl
      · obtain ⟨oa, c, q2⟩ := h.al _ hm k rfl
        rw [← z] at q2
        rcases hn with hn | hn <;> rw [hn] at q2 <;> cases q2
    rw [List.getElem?_set_ne hk]; exact q'
  | dat _ => exact q
  | own _ _ => exact q
  | bad => exact q
theorem Le.refl : ∀ Γ : List (Option Tm), Le Γ Γ
  | [] => .nil
  | _ :: Γ => .s (Le.refl Γ)
theorem Le.len {Γ Γ' : List (Option Tm)} (h : Le Γ Γ') : Γ.length ≤ Γ'.length := by
  induction h <;> simp_all
theorem Le.sub {Γ Γ' : List (Option Tm)} (h : Le Γ Γ') : ∀ σ : St, (pack σ Γ).Sublist (pack σ Γ') := by
  induction h with
  | nil => intro σ; simp [pack]
  | @s x _ _ _ ih =>
    intro σ
    cases x with
    | none => simpa [pack] using ih σ.tail
    | some t =>
      cases σ with
      | nil => simpa [pack] using ih []
      | cons y σ => cases y <;> simpa [pack] using ih σ
  | @d x _ _ _ ih =>
    intro σ
    cases x with
    | none => simpa [pack] using ih σ.tail
    | some t =>
      cases σ with
      | nil => simpa [pack] using (ih []).cons _
      | cons y σ => cases y <;> simpa [pack] using (ih σ).cons _
theorem At.weak {Γ' : List (Option Tm)} (h : At K g Γ σ [] H) (l : Le Γ' Γ) : At K g Γ' σ [] H := by
  obtain ⟨S, h⟩ := h
  have sub : (pack σ Γ' ++ []).Sublist (pack σ Γ ++ []) := (l.sub σ).append_right []
  exact ⟨S, h.base, Nat.le_trans l.len h.len, fun x hx => h.all x (sub.subset hx), fun x hx => h.ns x ((l.sub σ).subset hx), fun x hx => (by cases hx), h.nd.sublist (addrs_sub sub)⟩
theorem At.weak1 {Γ' : List (Option Tm)} (h : At K g Γ σ [(v, t)] H) (l : Le Γ' Γ) (ht : ∀ j, t ≠ .als j) : At K g Γ' σ [(v, t)] H := by
  obtain ⟨S, h⟩ := h
  have sub : (pack σ Γ' ++ [(v, t)]).Sublist (pack σ Γ ++ [(v, t)]) := (l.sub σ).append_right _
  exact ⟨S, h.base, Nat.le_trans l.len h.len, fun x hx => h.all x (sub.subset hx), fun x hx => h.ns x ((l.sub σ).subset hx), fun x hx k e => by
    have : x = (v, t) := by simpa using hx
    subst this
    exact absurd e (ht k), h.nd.sublist (addrs_sub sub)⟩
theorem pack_congr : ∀ {Γ : List (Option Tm)} {σ σ' : St}, (∀ (i : Nat) (t : Tm), Γ[i]? = some (some t) → σ'[i]? = σ[i]?) → Γ.length ≤ σ.length → Γ.length ≤ σ'.length → pack σ' Γ = pack σ Γ
  | [], _, _, _, _, _ => by simp [pack]
  | x :: Γ, [], _, _, l, _ => by simp at l
  | x :: Γ, _ :: _, [], _, _, l => by simp at l
  | x :: Γ, y :: σ, y' :: σ', h, l, l' => by
    have ih := pack_congr (Γ := Γ) (σ := σ) (σ' := σ') (fun i t e => by have := h (i + 1) t (by simpa using e); simpa using this) (by simpa using l) (by simpa using l')
    cases x with
    | none => simpa [pack] using ih
    | some t =>
      have e : y' = y := by have := h 0 t (by simp); simpa using this
      subst e
      cases y' <;> simp [pack, ih]
/-- slots that nothing is told of may be others -/
theorem AtS.slots {σ' : St} (h : AtS K g S Γ σ τ H) (e : ∀ (i : Nat) (t : Tm), Γ[i]? = some (some t) → σ'[i]? = σ[i]?) (l : Γ.length ≤ σ'.length) : AtS K g S Γ σ' τ H := by
  have ep := pack_congr e h.len l
  refine ⟨h.base, l, fun x hx => ?_, by rw [ep]; exact h.ns, h.al, by rw [ep]; exact h.nd⟩
  rw [ep] at hx
  have q := h.all x hx
  obtain ⟨v', t'⟩ := x
  cases t' with
  | als k =>
    rcases List.mem_append.mp hx with hm | hm
    · exact absurd rfl (h.ns _ hm k)
    · obtain ⟨oa, c, q2⟩ := h.al _ hm k rfl
      show σ'[k]? = some (some v')
      rw [e k _ q2]
      exact q
  | dat _ => exact q
  | own _ _ => exact q
  | bad => exact q
/-- a datum's slot is forgotten -/
theorem AtS.drop1 (h : AtS K g S Γ σ τ H) (e : Γ[i]? = some (some (.dat p))) : AtS K g S (Γ.set i none) σ τ H := by
  have sub : (pack σ (Γ.set i none) ++ τ).Sublist (pack σ Γ ++ τ) := (pack_drop Γ σ i).append_right τ
  refine ⟨h.base, by rw [List.length_set]; exact h.len, fun x hx => h.all x (sub.subset hx), fun x hx => h.ns x ((pack_drop Γ σ i).subset hx), fun x hx k ek => ?_, h.nd.sublist (addrs_sub sub)⟩
  obtain ⟨oa, c, q⟩ := h.al x hx k ek
  have hk : i ≠ k := fun z => by rw [z, q] at e; cases e
  exact ⟨oa, c, by rw [List.getElem?_set_ne hk]; exact q⟩
/-- the own list on the stack, below one value, is changed -/
theorem AtS.writeT {oa : Option Addr} {c c' : Cell} {o' : HO} {a : Addr} (h : AtS K g S Γ σ ((.ref a, .own oa c) :: τ) H) (k : CellOk K S c' o') :
    ∃ o, H a = some o ∧ CellOk K S c o ∧ AtS K g S Γ σ ((.ref a, .own oa c') :: τ) (upd H a o') := by
  obtain ⟨a', o, ea, h1, nS, nF, h4, h5⟩ := h.top
  cases ea
  refine ⟨o, h4, h5, ?_⟩
  have p : ∀ c : Cell, (pack σ Γ ++ (V.ref a, Tm.own oa c) :: τ).Perm ((V.ref a, Tm.own oa c) :: (pack σ Γ ++ τ)) := fun c => List.perm_middle
  have nd : (a :: addrs (pack σ Γ ++ τ)).Nodup := (addrs_perm (p c)).nodup_iff.mp h.nd
  obtain ⟨n1, n2⟩ := List.nodup_cons.mp nd
  refine ⟨⟨h.base.s0, fun b u z => ?_, fun b u z => ?_, h.base.fs⟩, h.len, fun x hx => ?_, h.ns, fun x hx j e => ?_, (addrs_perm (p c')).nodup_iff.mpr nd⟩
  · rw [upd_ne (ne_of_none z nS)]; exact h.base.sh b u z
  · rw [upd_ne (ne_of_none z nF)]; exact h.base.fh b u z
  · rcases List.mem_cons.mp ((p c').mem_iff.mp hx) with rfl | hx
    · exact ⟨a, o', rfl, h1, nS, nF, upd_same, k⟩
    · obtain ⟨v, t⟩ := x
      have q := h.all _ ((p c).mem_iff.mpr (List.mem_cons_of_mem _ hx))
      refine q.keep (Same.refl S) fun b ht hv => ⟨rfl, ?_⟩
      obtain ⟨oa', c'', rfl⟩ := ht
      subst hv
      exact upd_ne fun z => n1 (by rw [← z]; exact mem_addrs hx)
  · rcases List.mem_cons.mp hx with rfl | hx
    · cases e
    · exact h.al x (List.mem_cons_of_mem _ hx) j e
/-- from a later ghost back to an earlier one -/
theorem AtS.reS (h : AtS K g S Γ σ τ H) : AtS K ⟨S, g.F⟩ S Γ σ τ H :=
  ⟨⟨Same.refl S, h.base.sh, h.base.fh, fun b _ h0 => h0⟩, h.len, h.all, h.ns, h.al, h.nd⟩
theorem AtS.unS {S1 : Hp} (h : AtS K ⟨S1, g.F⟩ S Γ σ τ H) (e : Same g.S0 S1) (f : ∀ b, g.F b ≠ none → g.S0 b = none → S1 b = none) : AtS K g S Γ σ τ H :=
  ⟨⟨e.trans h.base.s0, h.base.sh, h.base.fh, fun b hb h0 => h.base.fs b hb (f b hb h0)⟩, h.len, h.all, h.ns, h.al, h.nd⟩
end
end Gv

set_option Elab.async false
set_option linter.all false
set_option maxRecDepth 100000
set_option maxHeartbeats 1000000
/-! Gv: expressions -/
namespace Gv
open PySem L2

/-! ### kinds of values -/
def eI (i : Int) : VP := fun _ v _ => v = .int i
def eB (b : Bool) : VP := fun _ v _ => v = .bl b
def eS (s : Str) : VP := fun _ v _ => v = .str s
def eN : VP := fun _ v _ => v = .non
def eU (_ : Unit) : VP := eN
def eO {α : Type} (e : α → VP) : Option α → VP
  | none => eN
  | some a => e a
def eV (x : V) : VP := fun _ v _ => v = x
def rT (ps : List VP) : VP := fun K v H => ∃ a vs, v = .ref a ∧ SqT K H a vs ∧ Hds K H ps vs
def rL (ps : List VP) : VP := fun K v H => ∃ a vs, v = .ref a ∧ SqL K H a vs ∧ Hds K H ps vs
def eT {α : Type} (e : α → VP) (xs : List α) : VP := rT (xs.map e)
def eL {α : Type} (e : α → VP) (xs : List α) : VP := rL (xs.map e)
def eP1 {α : Type} (e : α → VP) (x : α) : VP := rT [e x]
def eP2 {α β : Type} (e : α → VP) (f : β → VP) (x : α × β) : VP := rT [e x.1, f x.2]
def eP3 {α β γ : Type} (e : α → VP) (f : β → VP) (h : γ → VP) (x : α × β × γ) : VP := rT [e x.1, f x.2.1, h x.2.2]
def eP4 {α β γ δ : Type} (e : α → VP) (f : β → VP) (h : γ → VP) (k : δ → VP) (x : α × β × γ × δ) : VP := rT [e x.1, f x.2.1, h x.2.2.1, k x.2.2.2]
def eD (d : PyData) : VP := fun K v H => Dp K H v d
/-- a list of one's own, of typed items -/
def oL {α : Type} (e : α → VP) (xs : List α) : Tm := .own none (.lst (xs.map e))

theorem Hd.i {K : PySem.W.Frag} {i : Int} {v : V} {S : Hp} (h : Hd K (eI i) v S) : v = .int i := by obtain ⟨_, _, h⟩ := h; exact h
theorem Hd.b {K : PySem.W.Frag} {b : Bool} {v : V} {S : Hp} (h : Hd K (eB b) v S) : v = .bl b := by obtain ⟨_, _, h⟩ := h; exact h
theorem Hd.s {K : PySem.W.Frag} {s : Str} {v : V} {S : Hp} (h : Hd K (eS s) v S) : v = .str s := by obtain ⟨_, _, h⟩ := h; exact h
theorem Hd.n {K : PySem.W.Frag} {v : V} {S : Hp} (h : Hd K eN v S) : v = .non := by obtain ⟨_, _, h⟩ := h; exact h
theorem Hd.v {K : PySem.W.Frag} {x v : V} {S : Hp} (h : Hd K (eV x) v S) : v = x := by obtain ⟨_, _, h⟩ := h; exact h
theorem same_t {K : PySem.W.Frag} {H H' : Hp} {a : Addr} {xs : List V} (e : Same H H') (h : SqT K H a xs) : SqT K H' a xs := by
  rcases h with (h | ⟨o, h⟩) | h
  · exact .inl (.inl (e _ _ h))
  · exact .inl (.inr ⟨o, e _ _ h⟩)
  · exact .inr h
theorem Hd.t {K : PySem.W.Frag} {ps : List VP} {v : V} {S : Hp} (h : Hd K (rT ps) v S) : ∃ a vs, v = .ref a ∧ SqT K S a vs ∧ Hds K S ps vs := by
  obtain ⟨S0, e, a, vs, h1, h2, h3⟩ := h
  exact ⟨a, vs, h1, same_t e h2, h3.mono e⟩
theorem Hd.l {K : PySem.W.Frag} {ps : List VP} {v : V} {S : Hp} (h : Hd K (rL ps) v S) : ∃ a vs, v = .ref a ∧ SqL K S a vs ∧ Hds K S ps vs := by
  obtain ⟨S0, e, a, vs, h1, h2, h3⟩ := h
  exact ⟨a, vs, h1, e.seq h2, h3.mono e⟩
theorem Hds.get {K : PySem.W.Frag} {S : Hp} : ∀ {ps : List VP} {vs : List V} {i : Nat} {p : VP}, Hds K S ps vs → ps[i]? = some p → ∃ v, vs[i]? = some v ∧ Hd K p v S
  | _, _, _, _, .nil, h => by simp at h
  | _, _, 0, p, .cons r _, h => by
    simp only [List.getElem?_cons_zero, Option.some.injEq] at h
    subst h
    exact ⟨_, by simp, r⟩
  | _, _, i + 1, p, .cons _ t, h => by
    obtain ⟨v, h1, h2⟩ := Hds.get (i := i) (p := p) t (by simpa using h)
    exact ⟨v, by simpa using h1, h2⟩
theorem Hds.len {K : PySem.W.Frag} {S : Hp} {ps : List VP} {vs : List V} (h : Hds K S ps vs) : vs.length = ps.length := (Paired.length h).symm
theorem Hds.append {K : PySem.W.Frag} {S : Hp} : ∀ {ps qs : List VP} {vs ws : List V}, Hds K S ps vs → Hds K S qs ws → Hds K S (ps ++ qs) (vs ++ ws)
  | _, _, _, _, .nil, q => q
  | _, _, _, _, .cons r t, q => .cons r (Hds.append t q)
theorem Hds.take {K : PySem.W.Frag} {S : Hp} : ∀ {ps : List VP} {vs : List V} (n : Nat), Hds K S ps vs → Hds K S (ps.take n) (vs.take n)
  | _, _, 0, _ => by simpa using Paired.nil
  | _, _, _ + 1, .nil => .nil
  | _, _, n + 1, .cons r t => .cons r (Hds.take n t)
theorem Hds.drop {K : PySem.W.Frag} {S : Hp} : ∀ {ps : List VP} {vs : List V} (n : Nat), Hds K S ps vs → Hds K S (ps.drop n) (vs.drop n)
  | _, _, 0, h => by simpa using h
  | _, _, _ + 1, .nil => .nil
  | _, _, n + 1, .cons _ t => Hds.drop n t
theorem Hds.set {K : PySem.W.Frag} {S : Hp} {p : VP} {v : V} (h : Hd K p v S) : ∀ {ps : List VP} {vs : List V} (n : Nat), Hds K S ps vs → Hds K S (ps.set n p) (vs.set n v)
  | _, _, _, .nil => .nil
  | _, _, 0, .cons _ t => .cons h t
  | _, _, n + 1, .cons r t => .cons r (Hds.set h n t)
theorem Hds.rev {K : PySem.W.Frag} {S : Hp} {ps : List VP} {vs : List V} (h : Hds K S ps vs) : Hds K S ps.reverse vs.reverse := by
  induction h with
  | nil => exact .nil
  | cons r t ih => rw [List.reverse_cons, List.reverse_cons]; exact Hds.append ih (.cons r .nil)
theorem Hds.dropLast {K : PySem.W.Frag} {S : Hp} {ps : List VP} {vs : List V} (h : Hds K S ps vs) : Hds K S ps.dropLast vs.dropLast := by
  rw [List.dropLast_eq_take, List.dropLast_eq_take, h.len]
  exact h.take _

/-! ### judgements -/
section
variable (K : PySem.W.Frag) (Γ : List (Option Tm))
def EV (te : TE) (t : Tm) : Prop := ∀ g σ τ H (Q : VK), At K g Γ σ τ H → (∀ v H', At K g Γ σ ((v, t) :: τ) H' → Q v H') → te σ H Q
def EVB (tt : TT) (b : Bool) : Prop := ∀ g σ τ H (Q : Bool → Hp → Prop), At K g Γ σ τ H → (∀ H', At K g Γ σ τ H' → Q b H') → tt σ H Q
/-- arguments: the values stand on the stack, the last one on top -/
def EA (ta : TA) (ts : List Tm) : Prop := ∀ g σ τ H (Q : List V → Hp → Prop), At K g Γ σ τ H → (∀ vs H', vs.length = ts.length → At K g Γ σ ((vs.zip ts).reverse ++ τ) H' → Q vs H') → ta σ H Q
def O1 (r : V → Hp → VK → Prop) (t z : Tm) : Prop := ∀ g σ τ H x (Q : VK), At K g Γ σ ((x, t) :: τ) H → (∀ v H', At K g Γ σ ((v, z) :: τ) H' → Q v H') → r x H Q
def O2 (r : R2) (t u z : Tm) : Prop := ∀ g σ τ H x y (Q : VK), At K g Γ σ ((y, u) :: (x, t) :: τ) H → (∀ v H', At K g Γ σ ((v, z) :: τ) H' → Q v H') → r x y H Q
def O1M {γ : Type} (r : V → Hp → VK → Prop) (t : Tm) (m : R γ) (z : γ → Tm) : Prop := ∀ g σ τ H x (Q : VK) (E : Er → Prop), At K g Γ σ ((x, t) :: τ) H → OutR m (fun c => ∀ v H', At K g Γ σ ((v, z c) :: τ) H' → Q v H') E → r x H Q
def O2M {γ : Type} (r : R2) (t u : Tm) (m : R γ) (z : γ → Tm) : Prop := ∀ g σ τ H x y (Q : VK) (E : Er → Prop), At K g Γ σ ((y, u) :: (x, t) :: τ) H → OutR m (fun c => ∀ v H', At K g Γ σ ((v, z c) :: τ) H' → Q v H') E → r x y H Q
end

/-- a partial step -/
def gd (c : Bool) {α : Type} (a : α) : R α := if c then .nx a else .stuck
theorem OutR.gd {α : Type} {c : Bool} {a : α} {N : α → Prop} {E : Er → Prop} (h : OutR (Gv.gd c a) N E) : c = true ∧ N a := by
  unfold Gv.gd at h
  cases c with
  | true => exact ⟨rfl, h⟩
  | false => exact h.elim

section
variable {K : PySem.W.Frag} {Γ : List (Option Tm)} {g : Gh} {S H : Hp} {σ : St} {τ : List (V × Tm)} {v x y : V} {t u z w : Tm} {p q : VP} {ps qs : List VP} {i : Nat} {ta tb tc te : TE} {r r' : R2}

theorem At.scal (h : At K g Γ σ τ H) (q : ∀ S, p K v S) : At K g Γ σ ((v, .dat p) :: τ) H := by
  obtain ⟨S, h⟩ := h
  exact ⟨S, h.push (.of (q S))⟩
theorem ev_var (h : Γ[i]? = some (some (.dat p)) := by rfl) : EV K Γ (tVar i) (.dat p) := fun g σ τ H Q ⟨S, hA⟩ k => by
  obtain ⟨v, e, o, _⟩ := hA.slot h
  exact ⟨v, e, k v H ⟨S, hA.push o⟩⟩
theorem ev_own {oa : Option Addr} {c : Cell} (h : Γ[i]? = some (some (.own oa c)) := by rfl) : EV K Γ (tVar i) (.als i) := fun g σ τ H Q ⟨S, hA⟩ k => by
  obtain ⟨v, e, o, _⟩ := hA.slot h
  exact ⟨v, e, k v H ⟨S, hA.pushAls e h⟩⟩
theorem ev_int {j : Int} : EV K Γ (tC (.int j)) (.dat (eI j)) := fun g σ τ H Q hA k => k _ H (hA.scal fun _ => rfl)
theorem ev_bl {b : Bool} : EV K Γ (tC (.bl b)) (.dat (eB b)) := fun g σ τ H Q hA k => k _ H (hA.scal fun _ => rfl)
theorem ev_str {s : Str} : EV K Γ (tC (.str s)) (.dat (eS s)) := fun g σ τ H Q hA k => k _ H (hA.scal fun _ => rfl)
theorem ev_non : EV K Γ (tC .non) (.dat eN) := fun g σ τ H Q hA k => k _ H (hA.scal fun _ => rfl)
theorem ev_cv {x : V} : EV K Γ (tC x) (.dat (eV x)) := fun g σ τ H Q hA k => k _ H (hA.scal fun _ => rfl)
theorem ev_op (ha : EV K Γ ta t) (hb : EV K Γ tb u) (ho : O2 K Γ r t u z) : EV K Γ (tOp r ta tb) z := fun g σ τ H Q hA k =>
  ha g σ τ H _ hA fun _ H1 h1 => hb g σ _ H1 _ h1 fun _ H2 h2 => ho g σ τ H2 _ _ Q h2 k
theorem ev_un {r : V → Hp → VK → Prop} (ha : EV K Γ ta t) (ho : O1 K Γ r t z) : EV K Γ (tUn r ta) z := fun g σ τ H Q hA k =>
  ha g σ τ H _ hA fun _ H1 h1 => ho g σ τ H1 _ Q h1 k
theorem ev_cb1 {r : List V → Hp → VK → Prop} (ha : EV K Γ ta t) (ho : O1 K Γ (fun x => r [x]) t z) : EV K Γ (tCB r (tCons ta tNil)) z := fun g σ τ H Q hA k =>
  ha g σ τ H _ hA fun _ H1 h1 => ho g σ τ H1 _ Q h1 k
theorem ev_cb2 {r : List V → Hp → VK → Prop} (ha : EV K Γ ta t) (hb : EV K Γ tb u) (ho : O2 K Γ (fun x y => r [x, y]) t u z) : EV K Γ (tCB r (tCons ta (tCons tb tNil))) z := fun g σ τ H Q hA k =>
  ha g σ τ H _ hA fun _ H1 h1 => hb g σ _ H1 _ h1 fun _ H2 h2 => ho g σ τ H2 _ _ Q h2 k
theorem ea_nil : EA K Γ tNil [] := fun g σ τ H Q hA k => k [] H rfl hA
theorem ea_cons {tr : TA} {ts : List Tm} (h : EV K Γ te t) (hr : EA K Γ tr ts) : EA K Γ (tCons te tr) (t :: ts) := fun g σ τ H Q hA k =>
  h g σ τ H _ hA fun v H1 h1 => hr g σ _ H1 _ h1 fun vs H2 hl h2 => k (v :: vs) H2 (by simp [hl]) (by
    rw [List.zip_cons_cons, List.reverse_cons, List.append_assoc]
    exact h2)
/-- the datas on the stack -/
theorem AtS.datas : ∀ {ps : List VP} {vs : List V} {τ : List (V × Tm)}, AtS K g S Γ σ ((vs.zip (ps.map Tm.dat)).reverse ++ τ) H → vs.length = ps.length → Hds K S ps vs ∧ AtS K g S Γ σ τ H
  | [], [], τ, h, _ => ⟨.nil, by simpa using h⟩
  | [], _ :: _, _, _, e => by simp at e
  | _ :: _, [], _, _, e => by simp at e
  | p :: ps, v :: vs, τ, h, e => by
    rw [List.map_cons, List.zip_cons_cons, List.reverse_cons, List.append_assoc] at h
    obtain ⟨h1, h2⟩ := AtS.datas (ps := ps) (vs := vs) (τ := [(v, Tm.dat p)] ++ τ) h (by simpa using e)
    exact ⟨.cons h2.top h1, h2.pop⟩
theorem ev_tup {ta : TA} (ps : List VP) (h : EA K Γ ta (ps.map Tm.dat)) (hz : ps.length ≤ 100 := by exact Nat.le_of_ble_eq_true rfl) : EV K Γ (tTup ta) (.dat (rT ps)) := fun g σ τ H Q hA k =>
  h g σ τ H _ hA fun vs H1 hl ⟨S, h1⟩ => by
    have hl' : vs.length = ps.length := by simpa using hl
    obtain ⟨d, h2⟩ := h1.datas hl'
    refine ⟨Nat.le_trans (Nat.le_of_eq hl') (Nat.le_trans hz (by decide)), fun a ha => k _ _ ⟨_, (h2.lay ha).push (.of ⟨a, vs, rfl, SqT.of upd_same, d.mono fun b o e => ?_⟩)⟩⟩
    have : S a = none := by
      cases e : S a with
      | none => rfl
      | some o => rw [h2.base.sh a o e] at ha; cases ha
    rw [upd_ne (ne_of_none e this)]; exact e
theorem ev_lst {ta : TA} (ps : List VP) (h : EA K Γ ta (ps.map Tm.dat)) (hz : ps.length ≤ 100 := by exact Nat.le_of_ble_eq_true rfl) : EV K Γ (tLst ta) (.own none (.lst ps)) := fun g σ τ H Q hA k =>
  h g σ τ H _ hA fun vs H1 hl ⟨S, h1⟩ => by
    have hl' : vs.length = ps.length := by simpa using hl
    obtain ⟨d, h2⟩ := h1.datas hl'
    exact ⟨Nat.le_trans (Nat.le_of_eq hl') (Nat.le_trans hz (by decide)), fun a ha => k _ _ ⟨_, h2.fresh ha ⟨vs, rfl, d⟩⟩⟩
theorem At.frz {oa : Option Addr} (h : At K g Γ σ ((v, .own oa (.lst ps)) :: τ) H) : At K g Γ σ ((v, .dat (rL ps)) :: τ) H := by
  obtain ⟨S, h⟩ := h
  obtain ⟨a, o, rfl, h4, nS, ⟨vs, rfl, d⟩, h2⟩ := h.freeze
  refine ⟨_, h2.push (.of ⟨a, vs, rfl, SqL.of upd_same, d.mono fun b o e => ?_⟩)⟩
  rw [upd_ne (ne_of_none e nS)]; exact e
theorem ev_frz {oa : Option Addr} (h : EV K Γ te (.own oa (.lst ps))) : EV K Γ te (.dat (rL ps)) := fun g σ τ H Q hA k => h g σ τ H Q hA fun v H' h' => k v H' h'.frz

/-! ### ints, bools, texts -/
theorem At.scal1 {r : V → Hp → VK → Prop} (f : ∀ S v, Hd K p v S → ∀ H (Q : VK), Q x H → r v H Q) (hz : ∀ S, q K x S) : O1 K Γ r (.dat p) (.dat q) := fun g σ τ H v Q ⟨S, h⟩ k =>
  f S v h.top H Q (k _ H ⟨S, h.pop.push (.of (hz S))⟩)
theorem At.scal2 {p2 : VP} (f : ∀ S v w, Hd K p v S → Hd K p2 w S → ∀ H (Q : VK), Q x H → r v w H Q) (hz : ∀ S, q K x S) : O2 K Γ r (.dat p) (.dat p2) (.dat q) := fun g σ τ H v w Q ⟨S, h⟩ k =>
  f S v w h.pop.top h.top H Q (k _ H ⟨S, h.pop.pop.push (.of (hz S))⟩)
theorem o2_i0 {f : Int → Int → Int} {a b : Int} : O2 K Γ (rI0 fun i j => .int (f i j)) (.dat (eI a)) (.dat (eI b)) (.dat (eI (f a b))) :=
  At.scal2 (fun S v w h1 h2 H Q k => ⟨a, b, h1.i, h2.i, k⟩) fun _ => rfl
theorem o2_i {C : Int → Int → Prop} {f : Int → Int → Int} {a b : Int} (hc : C a b) : O2 K Γ (rI C fun i j => .int (f i j)) (.dat (eI a)) (.dat (eI b)) (.dat (eI (f a b))) :=
  At.scal2 (fun S v w h1 h2 H Q k => ⟨a, b, h1.i, h2.i, hc, k⟩) fun _ => rfl
theorem o2_c0 {f : Int → Int → Bool} {a b : Int} : O2 K Γ (rI0 fun i j => .bl (f i j)) (.dat (eI a)) (.dat (eI b)) (.dat (eB (f a b))) :=
  At.scal2 (fun S v w h1 h2 H Q k => ⟨a, b, h1.i, h2.i, k⟩) fun _ => rfl
theorem dec_inj {α : Type} [DecidableEq α] {f : α → V} (hf : ∀ a b, f a = f b → a = b) (a b : α) : decide (f a = f b) = decide (a = b) := by
  by_cases h : a = b
  · subst h; simp
  · rw [decide_eq_false h, decide_eq_false fun e => h (hf _ _ e)]
theorem o2_eqI {a b : Int} : O2 K Γ rEq (.dat (eI a)) (.dat (eI b)) (.dat (eB (decide (a = b)))) :=
  At.scal2 (fun S v w h1 h2 H Q k => by
    rw [h1.i, h2.i]
    exact ⟨rfl, by rw [dec_inj (f := V.int) (fun _ _ e => V.int.inj e)]; exact k⟩) fun _ => rfl
theorem o2_neI {a b : Int} : O2 K Γ rNe (.dat (eI a)) (.dat (eI b)) (.dat (eB (!decide (a = b)))) :=
  At.scal2 (fun S v w h1 h2 H Q k => by
    rw [h1.i, h2.i]
    exact ⟨rfl, by rw [dec_inj (f := V.int) (fun _ _ e => V.int.inj e)]; exact k⟩) fun _ => rfl
theorem o2_eqS {a b : Str} : O2 K Γ rEq (.dat (eS a)) (.dat (eS b)) (.dat (eB (decide (a = b)))) :=
  At.scal2 (fun S v w h1 h2 H Q k => by
    rw [h1.s, h2.s]
    exact ⟨rfl, by rw [dec_inj (f := V.str) (fun _ _ e => V.str.inj e)]; exact k⟩) fun _ => rfl
theorem o2_neS {a b : Str} : O2 K Γ rNe (.dat (eS a)) (.dat (eS b)) (.dat (eB (!decide (a = b)))) :=
  At.scal2 (fun S v w h1 h2 H Q k => by
    rw [h1.s, h2.s]
    exact ⟨rfl, by rw [dec_inj (f := V.str) (fun _ _ e => V.str.inj e)]; exact k⟩) fun _ => rfl
theorem o2_eqB {a b : Bool} : O2 K Γ rEq (.dat (eB a)) (.dat (eB b)) (.dat (eB (decide (a = b)))) :=
  At.scal2 (fun S v w h1 h2 H Q k => by
    rw [h1.b, h2.b]
    exact ⟨rfl, by rw [dec_inj (f := V.bl) (fun _ _ e => V.bl.inj e)]; exact k⟩) fun _ => rfl
theorem o2_neB {a b : Bool} : O2 K Γ rNe (.dat (eB a)) (.dat (eB b)) (.dat (eB (!decide (a = b)))) :=
  At.scal2 (fun S v w h1 h2 H Q k => by
    rw [h1.b, h2.b]
    exact ⟨rfl, by rw [dec_inj (f := V.bl) (fun _ _ e => V.bl.inj e)]; exact k⟩) fun _ => rfl
theorem o1_neg {a : Int} : O1 K Γ (rU fun i => .int (-i)) (.dat (eI a)) (.dat (eI (-a))) := At.scal1 (fun S v h H Q k => ⟨a, h.i, k⟩) fun _ => rfl
/-- partial: a % b, a // b, a * b -/
def modR (a b : Int) : R Int := gd (decide (0 < b)) (a % b)
def divR (a b : Int) : R Int := gd (decide (0 < b) && decide (b < 1073741824)) (a / b)
def mulR (a b : Int) : R Int := gd ((decide (-(2 ^ 64) < a) && decide (a < 2 ^ 64)) || (decide (-(2 ^ 64) < b) && decide (b < 2 ^ 64))) (a * b)
theorem At.part2 {γ : Type} {c : Bool} {a : γ} {zz : γ → Tm} (h : c = true → O2 K Γ r t u (zz a)) : O2M K Γ r t u (gd c a) zz := fun g σ τ H x y Q E hA hm => by
  obtain ⟨hc, k⟩ := hm.gd
  exact h hc g σ τ H x y Q hA k
theorem At.part1 {γ : Type} {r : V → Hp → VK → Prop} {c : Bool} {a : γ} {zz : γ → Tm} (h : c = true → O1 K Γ r t (zz a)) : O1M K Γ r t (gd c a) zz := fun g σ τ H x Q E hA hm => by
  obtain ⟨hc, k⟩ := hm.gd
  exact h hc g σ τ H x Q hA k
theorem o2_mod {a b : Int} : O2M K Γ (rI (fun _ j => 0 < j) fun i j => .int (i % j)) (.dat (eI a)) (.dat (eI b)) (modR a b) (fun c => .dat (eI c)) := At.part2 fun h => o2_i (of_decide_eq_true h)
theorem o2_div {a b : Int} : O2M K Γ (rI CDiv fun i j => .int (i / j)) (.dat (eI a)) (.dat (eI b)) (divR a b) (fun c => .dat (eI c)) := At.part2 fun h => o2_i (by
  simp only [Bool.and_eq_true, decide_eq_true_eq] at h
  exact h)
theorem o2_mul {a b : Int} : O2M K Γ (rI CMul fun i j => .int (i * j)) (.dat (eI a)) (.dat (eI b)) (mulR a b) (fun c => .dat (eI c)) := At.part2 fun h => o2_i (by
  simp only [Bool.or_eq_true, Bool.and_eq_true, decide_eq_true_eq] at h
  exact h)
/-- by a written number -/
theorem o2_modK {a b : Int} (h : decide (0 < b) = true := by rfl) : O2 K Γ (rI (fun _ j => 0 < j) fun i j => .int (i % j)) (.dat (eI a)) (.dat (eI b)) (.dat (eI (a % b))) := o2_i (of_decide_eq_true h)
theorem o2_divK {a b : Int} (h : (decide (0 < b) && decide (b < 1073741824)) = true := by rfl) : O2 K Γ (rI CDiv fun i j => .int (i / j)) (.dat (eI a)) (.dat (eI b)) (.dat (eI (a / b))) := o2_i (by
  simp only [Bool.and_eq_true, decide_eq_true_eq] at h
  exact h)
theorem o2_mulK {a b : Int} (h : (decide (-(2 ^ 64) < b) && decide (b < 2 ^ 64)) = true := by decide) : O2 K Γ (rI CMul fun i j => .int (i * j)) (.dat (eI a)) (.dat (eI b)) (.dat (eI (a * b))) := o2_i (by
  simp only [Bool.and_eq_true, decide_eq_true_eq] at h
  exact .inr h)
theorem o2_mulJ {a b : Int} (h : (decide (-(2 ^ 64) < a) && decide (a < 2 ^ 64)) = true := by decide) : O2 K Γ (rI CMul fun i j => .int (i * j)) (.dat (eI a)) (.dat (eI b)) (.dat (eI (a * b))) := o2_i (by
  simp only [Bool.and_eq_true, decide_eq_true_eq] at h
  exact .inl h)
theorem o2_powK {a b : Int} (h : CPow a b := by refine ⟨?_, ?_, ?_⟩ <;> decide) : O2 K Γ (rI CPow fun i j => .int (i ^ j.toNat)) (.dat (eI a)) (.dat (eI b)) (.dat (eI (a ^ b.toNat))) := o2_i h
/-- is None -/
def NN {α : Type} (e : α → VP) : Prop := ∀ K a v S, Hd K (e a) v S → v ≠ .non
theorem nn_i : NN eI := fun K a v S h => by rw [h.i]; intro z; cases z
theorem nn_b : NN eB := fun K a v S h => by rw [h.b]; intro z; cases z
theorem nn_s : NN eS := fun K a v S h => by rw [h.s]; intro z; cases z
theorem nn_t {α : Type} {f : α → List VP} : NN (fun a => rT (f a)) := fun K a v S h => by
  obtain ⟨a, vs, rfl, _⟩ := h.t
  intro z; cases z
theorem nn_l {α : Type} {f : α → List VP} : NN (fun a => rL (f a)) := fun K a v S h => by
  obtain ⟨a, vs, rfl, _⟩ := h.l
  intro z; cases z
theorem eO_dec {α : Type} {e : α → VP} (n : NN e) {o : Option α} {v : V} {S : Hp} (h : Hd K (eO e o) v S) : decide (v = .non) = o.isNone := by
  cases o with
  | none => have e1 : v = .non := Hd.n h; subst e1; rfl
  | some a => exact decide_eq_false (n K a v S h)
def rIsN : R2 := fun x y H Q => y = .non ∧ Q (.bl (decide (x = .non))) H
def rNotN : R2 := fun x y H Q => y = .non ∧ Q (.bl (!decide (x = .non))) H
theorem p_isN {X : Cx} : OpR X (compareOp .Is) rIsN := op_isN
theorem p_notN {X : Cx} : OpR X (compareOp .IsNot) rNotN := op_notN
theorem o2_isN {α : Type} {e : α → VP} {o : Option α} (n : NN e) : O2 K Γ rIsN (.dat (eO e o)) (.dat eN) (.dat (eB o.isNone)) :=
  At.scal2 (fun S v w h1 h2 H Q k => ⟨h2.n, by rw [eO_dec n h1]; exact k⟩) fun _ => rfl
theorem o2_notN {α : Type} {e : α → VP} {o : Option α} (n : NN e) : O2 K Γ rNotN (.dat (eO e o)) (.dat eN) (.dat (eB (!o.isNone))) :=
  At.scal2 (fun S v w h1 h2 H Q k => ⟨h2.n, by rw [eO_dec n h1]; exact k⟩) fun _ => rfl

/-! ### tests -/
variable {tA tB' : TT} {a b c : Bool}
theorem evb_test (h : EV K Γ te (.dat (eB b))) : EVB K Γ (tTest te) b := fun g σ τ H Q hA k => h g σ τ H _ hA fun v H' ⟨S, h'⟩ => ⟨b, h'.top.b, k H' ⟨S, h'.pop⟩⟩
theorem evb_B (h : EV K Γ te (.dat (eB b))) : EVB K Γ (tB te) b := fun g σ τ H Q hA k => h g σ τ H _ hA fun v H' ⟨S, h'⟩ => ⟨b, h'.top.b, k H' ⟨S, h'.pop⟩⟩
theorem evb_and (h1 : EVB K Γ tA a) (h2 : EVB K Γ tB' b) : EVB K Γ (tAnd tA tB') (a && b) := fun g σ τ H Q hA k => h1 g σ τ H _ hA fun H1 hA1 => by
  cases a with
  | true => exact h2 g σ τ H1 Q hA1 k
  | false => exact k H1 hA1
theorem evb_or (h1 : EVB K Γ tA a) (h2 : EVB K Γ tB' b) : EVB K Γ (tOr tA tB') (a || b) := fun g σ τ H Q hA k => h1 g σ τ H _ hA fun H1 hA1 => by
  cases a with
  | false => exact h2 g σ τ H1 Q hA1 k
  | true => exact k H1 hA1
theorem evb_not (h1 : EVB K Γ tA a) : EVB K Γ (tNot tA) (!a) := fun g σ τ H Q hA k => h1 g σ τ H _ hA fun H1 hA1 => k H1 hA1
theorem ev_andV (h1 : EV K Γ ta (.dat (eB a))) (h2 : EV K Γ tb (.dat (eB b))) : EV K Γ (tAndV ta tb) (.dat (eB (a && b))) := fun g σ τ H Q hA k => h1 g σ τ H _ hA fun v H1 ⟨S, h⟩ => ⟨a, h.top.b, by
  have hA1 : At K g Γ σ τ H1 := ⟨S, h.pop⟩
  cases a with
  | true => exact h2 g σ τ H1 Q hA1 k
  | false => exact k _ H1 (hA1.scal fun _ => rfl)⟩
theorem ev_orV (h1 : EV K Γ ta (.dat (eB a))) (h2 : EV K Γ tb (.dat (eB b))) : EV K Γ (tOrV ta tb) (.dat (eB (a || b))) := fun g σ τ H Q hA k => h1 g σ τ H _ hA fun v H1 ⟨S, h⟩ => ⟨a, h.top.b, by
  have hA1 : At K g Γ σ τ H1 := ⟨S, h.pop⟩
  cases a with
  | false => exact h2 g σ τ H1 Q hA1 k
  | true => exact k _ H1 (hA1.scal fun _ => rfl)⟩
theorem ev_notV (h1 : EV K Γ ta (.dat (eB a))) : EV K Γ (tNotV ta) (.dat (eB (!a))) := fun g σ τ H Q hA k => h1 g σ τ H _ hA fun v H1 ⟨S, h⟩ => ⟨a, h.top.b, k _ H1 (At.scal ⟨S, h.pop⟩ fun _ => rfl)⟩
theorem ev_if {α : Type} {e : α → Tm} {x y : α} (hc : EVB K Γ tA c) (h1 : EV K Γ ta (e x)) (h2 : EV K Γ tb (e y)) : EV K Γ (tIf tA ta tb) (e (if c then x else y)) := fun g σ τ H Q hA k => hc g σ τ H _ hA fun H1 hA1 => by
  cases c with
  | true => exact h1 g σ τ H1 Q hA1 k
  | false => exact h2 g σ τ H1 Q hA1 k
/-- a < b < c on ints (b asked once) -/
theorem ev_chain {i j k : Int} {f f' : Int → Int → Bool} (h1 : EV K Γ ta (.dat (eI i))) (h2 : EV K Γ tb (.dat (eI j))) (h3 : EV K Γ tc (.dat (eI k))) :
    EV K Γ (tChain (rI0 fun i j => .bl (f i j)) (rI0 fun i j => .bl (f' i j)) ta tb tc) (.dat (eB (f i j && f' j k))) := fun g σ τ H Q hA kk =>
  h1 g σ τ H _ hA fun x H1 hA1 => h2 g σ _ H1 _ hA1 fun y H2 ⟨S, hA2⟩ => by
    refine ⟨i, j, hA2.pop.top.i, hA2.top.i, f i j, rfl, ?_⟩
    cases e : f i j with
    | true =>
      show tc σ H2 _
      refine h3 g σ _ H2 _ ⟨S, hA2⟩ fun z H3 ⟨S3, hA3⟩ => ⟨j, k, hA3.pop.top.i, hA3.top.i, ?_⟩
      refine kk _ H3 ⟨S3, hA3.pop.pop.pop.push (.of ?_)⟩
      show V.bl _ = V.bl _
      rw [e, Bool.true_and]
    | false =>
      show Q (.bl false) H2
      exact kk _ H2 ⟨S, hA2.pop.pop.push (.of (by show V.bl _ = V.bl _; rw [e, Bool.false_and]))⟩
end
end Gv

set_option Elab.async false
set_option linter.all false
set_option maxRecDepth 100000
set_option maxHeartbeats 1000000
/-! Gv: lists, tuples, calls, statements -/
namespace Gv
open PySem L2

/-! ### what stands on the stack is a list, a tuple -/
inductive IsL (G : List (Option Tm)) : Tm → List VP → Prop
  | dat {ps : List VP} : IsL G (.dat (rL ps)) ps
  | als {i : Nat} {oa : Option Addr} {ps : List VP} (h : G[i]? = some (some (.own oa (.lst ps)))) : IsL G (.als i) ps
  | own {oa : Option Addr} {ps : List VP} : IsL G (.own oa (.lst ps)) ps
inductive IsQ (G : List (Option Tm)) : Tm → List VP → Prop
  | l {t : Tm} {ps : List VP} (h : IsL G t ps) : IsQ G t ps
  | t {ps : List VP} : IsQ G (.dat (rT ps)) ps

section
variable {K : PySem.W.Frag} {Γ : List (Option Tm)} {g : Gh} {S H : Hp} {σ : St} {τ : List (V × Tm)} {v x y : V} {t u z w : Tm} {p q : VP} {ps qs : List VP} {i : Nat} {ta tb tc te : TE} {r r' : R2} {α : Type} {e : α → VP}

theorem AtS.isL (h : AtS K g S Γ σ τ H) (hm : (v, t) ∈ τ) (hl : IsL Γ t ps) : ∃ a vs, v = .ref a ∧ SqL K H a vs ∧ Hds K S ps vs := by
  have q := h.all _ (List.mem_append_right _ hm)
  cases hl with
  | dat =>
    obtain ⟨a, vs, h1, h2, h3⟩ := Hd.l q
    exact ⟨a, vs, h1, h.base.sh.seq h2, h3⟩
  | als hg =>
    obtain ⟨w, e, o, _⟩ := h.slot hg
    have q' : σ[_]? = some (some v) := q
    rw [e] at q'
    cases q'
    obtain ⟨a, o, h1, _, _, _, h4, vs, rfl, d⟩ := o
    exact ⟨a, vs, h1, SqL.of h4, d⟩
  | own =>
    obtain ⟨a, o, h1, _, _, _, h4, vs, rfl, d⟩ := q
    exact ⟨a, vs, h1, SqL.of h4, d⟩
theorem AtS.isT (h : AtS K g S Γ σ τ H) (hm : (v, .dat (rT ps)) ∈ τ) : ∃ a vs, v = .ref a ∧ SqT K H a vs ∧ Hds K S ps vs := by
  obtain ⟨a, vs, h1, h2, h3⟩ := Hd.t (h.all _ (List.mem_append_right _ hm))
  exact ⟨a, vs, h1, same_t h.base.sh h2, h3⟩
theorem AtS.isQ (h : AtS K g S Γ σ τ H) (hm : (v, t) ∈ τ) (hl : IsQ Γ t ps) : ∃ a vs, v = .ref a ∧ (SqL K H a vs ∨ SqT K H a vs) ∧ Hds K S ps vs := by
  cases hl with
  | l hl =>
    obtain ⟨a, vs, h1, h2, h3⟩ := h.isL hm hl
    exact ⟨a, vs, h1, .inl h2, h3⟩
  | t =>
    obtain ⟨a, vs, h1, h2, h3⟩ := h.isT hm
    exact ⟨a, vs, h1, .inr h2, h3⟩

/-! ### len, list(..), tuple(..) -/
def rLen (K : PySem.W.Frag) : List V → Hp → VK → Prop := fun xs H Q => ∃ p ys, xs = [V.ref p] ∧ (SqL K H p ys ∨ SqT K H p ys) ∧ Q (.int ys.length) H
def rList (K : PySem.W.Frag) : List V → Hp → VK → Prop := fun xs H Q => ∃ p ys, xs = [V.ref p] ∧ (SqL K H p ys ∨ SqT K H p ys) ∧ ∀ l, H l = none → Q (.ref l) (upd H l (.lst ys))
def rTuple (K : PySem.W.Frag) : List V → Hp → VK → Prop := fun xs H Q => ∃ p ys, xs = [V.ref p] ∧ ((SqL K H p ys ∧ ∀ l, H l = none → Q (.ref l) (upd H l (.tup ys))) ∨ (SqT K H p ys ∧ Q (.ref p) H))
def rInt1 : List V → Hp → VK → Prop := fun xs H Q => (∃ i, xs = [V.int i] ∧ Q (.int i) H) ∨ ∃ k, xs = [V.bl k] ∧ Q (.int (if k then 1 else 0)) H
def rStr1 : List V → Hp → VK → Prop := fun xs H Q => ∃ i : Int, xs = [V.int i] ∧ i.natAbs.log2 < 1920 ∧ Q (.str (toString i)) H
def rMax2 : List V → Hp → VK → Prop := fun xs H Q => ∃ i j, xs = [V.int i, V.int j] ∧ Q (.int (if j > i then j else i)) H
def rMin2 : List V → Hp → VK → Prop := fun xs H Q => ∃ i j, xs = [V.int i, V.int j] ∧ Q (.int (if j < i then j else i)) H
def rAbs : List V → Hp → VK → Prop := fun xs H Q => ∃ i, xs = [V.int i] ∧ Q (.int (if i < 0 then -i else i)) H
section
variable {X : Cx}
theorem c_len : CallR X (.builtin "len") (rLen X.K) := call_len_seq
theorem c_list : CallR X (.type "list") (rList X.K) := call_list_of
theorem c_tuple : CallR X (.type "tuple") (rTuple X.K) := call_tuple_of
theorem c_int : CallR X (.type "int") rInt1 := call_int1
theorem c_str : CallR X (.type "str") rStr1 := call_str_int
theorem c_max2 (hc : X.calm = true := by rfl) : CallR X (.builtin "max") rMax2 := call_max2 hc
theorem c_min2 (hc : X.calm = true := by rfl) : CallR X (.builtin "min") rMin2 := call_min2 hc
theorem c_abs : CallR X (.builtin "abs") rAbs := call_abs
end
theorem o1_int {i : Int} : O1 K Γ (fun x => rInt1 [x]) (.dat (eI i)) (.dat (eI i)) := At.scal1 (fun S v h H Q k => .inl ⟨i, by rw [h.i], k⟩) fun _ => rfl
theorem o1_intB {b : Bool} : O1 K Γ (fun x => rInt1 [x]) (.dat (eB b)) (.dat (eI (if b then 1 else 0))) := At.scal1 (fun S v h H Q k => .inr ⟨b, by rw [h.b], k⟩) fun _ => rfl
theorem o1_abs {i : Int} : O1 K Γ (fun x => rAbs [x]) (.dat (eI i)) (.dat (eI (if i < 0 then -i else i))) := At.scal1 (fun S v h H Q k => ⟨i, by rw [h.i], k⟩) fun _ => rfl
def strI (i : Int) : Str := toString i
def strR (i : Int) : R Str := gd (decide (i.natAbs.log2 < 1920)) (strI i)
theorem o1_str {i : Int} : O1M K Γ (fun x => rStr1 [x]) (.dat (eI i)) (strR i) (fun s => .dat (eS s)) := At.part1 fun hc => At.scal1 (fun S v h H Q k => ⟨i, by rw [h.i], of_decide_eq_true hc, k⟩) fun _ => rfl
def maxI (i j : Int) : Int := if j > i then j else i
def minI (i j : Int) : Int := if j < i then j else i
theorem o2_max {i j : Int} : O2 K Γ (fun x y => rMax2 [x, y]) (.dat (eI i)) (.dat (eI j)) (.dat (eI (maxI i j))) := At.scal2 (fun S v w h1 h2 H Q k => ⟨i, j, by rw [h1.i, h2.i], k⟩) fun _ => rfl
theorem o2_min {i j : Int} : O2 K Γ (fun x y => rMin2 [x, y]) (.dat (eI i)) (.dat (eI j)) (.dat (eI (minI i j))) := At.scal2 (fun S v w h1 h2 H Q k => ⟨i, j, by rw [h1.i, h2.i], k⟩) fun _ => rfl
theorem o1_len (hl : IsQ Γ t ps) : O1 K Γ (fun x => rLen K [x]) t (.dat (eI (ps.length : Int))) := fun g σ τ H x Q ⟨S, h⟩ k => by
  obtain ⟨a, vs, rfl, h2, h3⟩ := h.isQ List.mem_cons_self hl
  refine ⟨a, vs, rfl, h2, k _ H ⟨S, h.pop.push (.of ?_)⟩⟩
  show V.int _ = V.int _
  rw [h3.len]
theorem o1_lenT (xs : List α) (e : α → VP) (hl : IsQ Γ t (xs.map e)) : O1 K Γ (fun x => rLen K [x]) t (.dat (eI (xs.length : Int))) := by
  have := o1_len (K := K) hl
  rw [List.length_map] at this
  exact this
theorem o1_list (hl : IsQ Γ t ps) : O1 K Γ (fun x => rList K [x]) t (.own none (.lst ps)) := fun g σ τ H x Q ⟨S, h⟩ k => by
  obtain ⟨a, vs, rfl, h2, h3⟩ := h.isQ List.mem_cons_self hl
  exact ⟨a, vs, rfl, h2, fun l hn => k _ _ ⟨S, h.pop.fresh hn ⟨vs, rfl, h3⟩⟩⟩
theorem nS_of (h : AtS K g S Γ σ τ H) {a : Addr} (n : H a = none) : S a = none := by
  cases e : S a with
  | none => rfl
  | some u => rw [h.base.sh a u e] at n; cases n
/-- a new tuple of what is held -/
theorem AtS.newT {a : Addr} {vs : List V} (h : AtS K g S Γ σ τ H) (n : H a = none) (d : Hds K S ps vs) : At K g Γ σ ((.ref a, .dat (rT ps)) :: τ) (upd H a (.tup vs)) :=
  ⟨_, (h.lay n).push (.of ⟨a, vs, rfl, SqT.of upd_same, d.mono fun b o e => by rw [upd_ne (ne_of_none e (nS_of h n))]; exact e⟩)⟩
theorem o1_tuple (hl : IsQ Γ t ps) : O1 K Γ (fun x => rTuple K [x]) t (.dat (rT ps)) := fun g σ τ H x Q ⟨S, h⟩ k => by
  cases hl with
  | l hl =>
    obtain ⟨a, vs, rfl, h2, h3⟩ := h.isL List.mem_cons_self hl
    exact ⟨a, vs, rfl, .inl ⟨h2, fun l hn => k _ _ (h.pop.newT hn h3)⟩⟩
  | t =>
    have q := h.top
    obtain ⟨a, vs, rfl, h2, h3⟩ := h.isT List.mem_cons_self
    exact ⟨a, vs, rfl, .inr ⟨h2, k _ H ⟨S, h.pop.push q⟩⟩⟩

/-! ### an item -/
def idx {α : Type} (xs : List α) (i : Int) : R α := match atI xs i with
  | some a => .nx a
  | none => .stuck
theorem atI_hds {vs : List V} {j : Int} {p : VP} (d : Hds K S ps vs) (h : atI ps j = some p) : ∃ v, atI vs j = some v ∧ Hd K p v S := by
  unfold atI at h ⊢
  rw [d.len]
  cases e : ixN ps.length j with
  | none => rw [e] at h; cases h
  | some m =>
    rw [e] at h
    have h' : ps[m]? = some p := h
    obtain ⟨v, h1, h2⟩ := d.get h'
    exact ⟨v, h1, h2⟩
theorem atI_map {xs : List α} {j : Int} {a : α} (h : atI xs j = some a) : atI (xs.map e) j = some (e a) := by
  unfold atI at h ⊢
  rw [List.length_map]
  cases e1 : ixN xs.length j with
  | none => rw [e1] at h; cases h
  | some m =>
    rw [e1] at h
    have h' : xs[m]? = some a := h
    show (xs.map e)[m]? = some (e a)
    rw [List.getElem?_map, h']
    rfl
theorem o2_idxL {xs : List α} {j : Int} (hl : IsL Γ t (xs.map e)) : O2M K Γ (rIxL K) t (.dat (eI j)) (idx xs j) (fun a => .dat (e a)) := fun g σ τ H x y Q E ⟨S, h⟩ hm => by
  unfold idx at hm
  cases e1 : atI xs j with
  | none => rw [e1] at hm; exact hm.elim
  | some a =>
    rw [e1] at hm
    obtain ⟨b, vs, rfl, h2, h3⟩ := h.isL (List.mem_cons_of_mem _ List.mem_cons_self) hl
    obtain ⟨w, h4, h5⟩ := atI_hds h3 (atI_map e1)
    exact ⟨b, vs, j, w, rfl, h.top.i, h2, h4, hm _ H ⟨S, h.pop.pop.push h5⟩⟩
theorem o2_idxT {xs : List α} {j : Int} : O2M K Γ (rIxT K) (.dat (eT e xs)) (.dat (eI j)) (idx xs j) (fun a => .dat (e a)) := fun g σ τ H x y Q E ⟨S, h⟩ hm => by
  unfold idx at hm
  cases e1 : atI xs j with
  | none => rw [e1] at hm; exact hm.elim
  | some a =>
    rw [e1] at hm
    obtain ⟨b, vs, rfl, h2, h3⟩ := h.isT (List.mem_cons_of_mem _ List.mem_cons_self)
    obtain ⟨w, h4, h5⟩ := atI_hds h3 (atI_map e1)
    exact ⟨b, vs, j, w, rfl, h.top.i, h2, h4, hm _ H ⟨S, h.pop.pop.push h5⟩⟩
/-- a written place of a tuple whose places are told -/
theorem o2_ixK {j : Int} (h : atI ps j = some p := by rfl) : O2 K Γ (rIxT K) (.dat (rT ps)) (.dat (eI j)) (.dat p) := fun g σ τ H x y Q ⟨S, hA⟩ k => by
  obtain ⟨b, vs, rfl, h2, h3⟩ := hA.isT (List.mem_cons_of_mem _ List.mem_cons_self)
  obtain ⟨w, h4, h5⟩ := atI_hds h3 h
  exact ⟨b, vs, j, w, rfl, hA.top.i, h2, h4, k _ H ⟨S, hA.pop.pop.push h5⟩⟩

/-! ### slices -/
def cutL {α : Type} (xs : List α) (lo hi : Option Int) : List α := (xs.drop (HT.sIx xs.length 0 lo)).take (HT.sIx xs.length xs.length hi - HT.sIx xs.length 0 lo)
theorem cutL_map (xs : List α) (lo hi : Option Int) : (cutL xs lo hi).map e = cutL (xs.map e) lo hi := by
  unfold cutL
  rw [List.map_take, List.map_drop, List.length_map]
theorem cut_hds {vs : List V} (d : Hds K S ps vs) (lo hi : Option Int) : Hds K S (cutL ps lo hi) (cutV vs lo hi) := by
  unfold cutL cutV
  rw [d.len]
  exact (d.drop _).take _
/-- a bound of a slice -/
def EVO (K : PySem.W.Frag) (Γ : List (Option Tm)) (to : TO) (o : Option Int) : Prop := ∀ g σ τ H (Q : Option Int → Hp → Prop), At K g Γ σ τ H → (∀ H', At K g Γ σ τ H' → Q o H') → to σ H Q
theorem evo_none : EVO K Γ tNoPart none := fun g σ τ H Q hA k => k H hA
theorem evo_some {j : Int} (h : EV K Γ te (.dat (eI j))) : EVO K Γ (tPart te) (some j) := fun g σ τ H Q hA k => h g σ τ H _ hA fun v H' ⟨S, h'⟩ => ⟨j, h'.top.i, k H' ⟨S, h'.pop⟩⟩
def O1S (K : PySem.W.Frag) (Γ : List (Option Tm)) (r : V → Option Int → Option Int → Hp → VK → Prop) (t : Tm) (lo hi : Option Int) (z : Tm) : Prop := ∀ g σ τ H x (Q : VK), At K g Γ σ ((x, t) :: τ) H → (∀ v H', At K g Γ σ ((v, z) :: τ) H' → Q v H') → r x lo hi H Q
theorem ev_slice {r : V → Option Int → Option Int → Hp → VK → Prop} {tl th : TO} {lo hi : Option Int} (h : EV K Γ te t) (hl : EVO K Γ tl lo) (hh : EVO K Γ th hi) (ho : O1S K Γ r t lo hi z) : EV K Γ (tSl r te tl th) z := fun g σ τ H Q hA k =>
  h g σ τ H _ hA fun x H1 h1 => hl g σ _ H1 _ h1 fun H2 h2 => hh g σ _ H2 _ h2 fun H3 h3 => ho g σ τ H3 x Q h3 k
theorem o1_cutL {lo hi : Option Int} (hl : IsL Γ t ps) : O1S K Γ (rSlL K) t lo hi (.own none (.lst (cutL ps lo hi))) := fun g σ τ H x Q ⟨S, h⟩ k => by
  obtain ⟨a, vs, rfl, h2, h3⟩ := h.isL List.mem_cons_self hl
  exact ⟨a, vs, rfl, h2, fun p hn => k _ _ ⟨S, h.pop.fresh hn ⟨_, rfl, cut_hds h3 lo hi⟩⟩⟩
theorem o1_cutLT {xs : List α} {lo hi : Option Int} (hl : IsL Γ t (xs.map e)) : O1S K Γ (rSlL K) t lo hi (.own none (.lst ((cutL xs lo hi).map e))) := by
  rw [cutL_map]
  exact o1_cutL hl
theorem whole_cut {vs : List V} {lo hi : Option Int} (h : HT.sIx vs.length 0 lo = 0 ∧ HT.sIx vs.length vs.length hi = vs.length) : cutV vs lo hi = vs := by
  unfold cutV
  rw [h.1, h.2, List.drop_zero, Nat.sub_zero, List.take_length]
theorem o1_cutT {lo hi : Option Int} : O1S K Γ (rSlA K) (.dat (rT ps)) lo hi (.dat (rT (cutL ps lo hi))) := fun g σ τ H x Q ⟨S, h⟩ k => by
  obtain ⟨a, vs, rfl, h2, h3⟩ := Hd.t h.top
  have d := cut_hds h3 lo hi
  refine ⟨a, vs, rfl, same_t h.base.sh h2, fun hw => k _ H ⟨S, h.pop.push (.of ⟨a, vs, rfl, h2, by rw [whole_cut hw] at d; exact d⟩)⟩, fun _ p hn => k _ _ (h.pop.newT hn d)⟩
theorem o1_cutTT {xs : List α} {lo hi : Option Int} : O1S K Γ (rSlA K) (.dat (eT e xs)) lo hi (.dat (eT e (cutL xs lo hi))) := by
  unfold eT
  rw [cutL_map]
  exact o1_cutT

/-! ### + of tuples, of own lists -/
def catR {α : Type} (xs ys : List α) : R (List α) := gd (decide (xs.length + ys.length ≤ 1000000)) (xs ++ ys)
theorem le_line {n : Nat} (h : n ≤ 1000000) : n ≤ sizeLine := by rw [sizeLine_eq]; omega
theorem lt_line {n : Nat} (h : n < 1000000) : n < sizeLine := by rw [sizeLine_eq]; omega
theorem o2_catP (hz : ps.length + qs.length ≤ 1000000) : O2 K Γ (rCatA K) (.dat (rT ps)) (.dat (rT qs)) (.dat (rT (ps ++ qs))) := fun g σ τ H x y Q ⟨S, h⟩ k => by
  obtain ⟨a, vs, rfl, h2, h3⟩ := Hd.t h.pop.top
  obtain ⟨b, ws, rfl, k2, k3⟩ := Hd.t h.top
  have d := h3.append k3
  have hz' : vs.length + ws.length ≤ sizeLine := by rw [h3.len, k3.len]; exact le_line hz
  refine ⟨a, b, vs, ws, rfl, rfl, same_t h.base.sh h2, same_t h.base.sh k2, hz', fun e => ?_, fun _ e => ?_, fun _ _ p hn => k _ _ (h.pop.pop.newT hn d)⟩
  · refine k _ H ⟨S, h.pop.pop.push (.of ⟨b, ws, rfl, k2, ?_⟩)⟩
    rw [e] at d; exact d
  · refine k _ H ⟨S, h.pop.pop.push (.of ⟨a, vs, rfl, h2, ?_⟩)⟩
    rw [e, List.append_nil] at d; exact d
theorem o2_catT {xs ys : List α} : O2M K Γ (rCatA K) (.dat (eT e xs)) (.dat (eT e ys)) (catR xs ys) (fun c => .dat (eT e c)) := At.part2 fun h => by
  have := o2_catP (K := K) (Γ := Γ) (ps := xs.map e) (qs := ys.map e) (by rw [List.length_map, List.length_map]; exact of_decide_eq_true h)
  rw [← List.map_append] at this
  exact this
/-- an own list, or an alias of one -/
inductive IsO (G : List (Option Tm)) : Tm → List VP → Prop
  | als {i : Nat} {oa : Option Addr} {ps : List VP} (h : G[i]? = some (some (.own oa (.lst ps)))) : IsO G (.als i) ps
  | own {oa : Option Addr} {ps : List VP} : IsO G (.own oa (.lst ps)) ps
theorem AtS.isO (h : AtS K g S Γ σ τ H) (hm : (v, t) ∈ τ) (hl : IsO Γ t ps) : ∃ a vs, v = .ref a ∧ H a = some (.lst vs) ∧ Hds K S ps vs := by
  have q := h.all _ (List.mem_append_right _ hm)
  cases hl with
  | als hg =>
    obtain ⟨w, e, o, _⟩ := h.slot hg
    have q' : σ[_]? = some (some v) := q
    rw [e] at q'
    cases q'
    obtain ⟨a, o, h1, _, _, _, h4, vs, rfl, d⟩ := o
    exact ⟨a, vs, h1, h4, d⟩
  | own =>
    obtain ⟨a, o, h1, _, _, _, h4, vs, rfl, d⟩ := q
    exact ⟨a, vs, h1, h4, d⟩
theorem o2_catL {xs ys : List α} (h1 : IsO Γ t (xs.map e)) (h2 : IsO Γ u (ys.map e)) : O2M K Γ rCat t u (catR xs ys) (fun c => .own none (.lst (c.map e))) := At.part2 fun hz => fun g σ τ H x y Q ⟨S, h⟩ k => by
  obtain ⟨a, vs, rfl, a2, a3⟩ := h.isO (List.mem_cons_of_mem _ List.mem_cons_self) h1
  obtain ⟨b, ws, rfl, b2, b3⟩ := h.isO List.mem_cons_self h2
  have hz' : xs.length + ys.length ≤ 1000000 := of_decide_eq_true hz
  refine ⟨a, b, vs, ws, rfl, rfl, a2, b2, ?_, fun p hn => k _ _ ⟨S, h.pop.pop.fresh hn ⟨_, rfl, ?_⟩⟩⟩
  · rw [a3.len, b3.len, List.length_map, List.length_map]; exact le_line hz'
  · rw [List.map_append]; exact a3.append b3
end

/-! ### stepping into a reading -/
section
variable {σ : St} {H : Hp} {Q : VK} {ta tb te : TE} {t : TA} {r : R2}
theorem x_op (h : ta σ H fun x H1 => tb σ H1 fun y H2 => r x y H2 Q) : tOp r ta tb σ H Q := h
theorem x_un {r : V → Hp → VK → Prop} (h : ta σ H fun x H1 => r x H1 Q) : tUn r ta σ H Q := h
theorem x_cb1 {r : List V → Hp → VK → Prop} (h : ta σ H fun x H1 => r [x] H1 Q) : tCB r (tCons ta tNil) σ H Q := h
theorem x_cb2 {r : List V → Hp → VK → Prop} (h : ta σ H fun x H1 => tb σ H1 fun y H2 => r [x, y] H2 Q) : tCB r (tCons ta (tCons tb tNil)) σ H Q := h
theorem x_if {tc : TT} (h : tc σ H fun c H1 => if c = true then ta σ H1 Q else tb σ H1 Q) : tIf tc ta tb σ H Q := h
theorem x_bm1 {K : PySem.W.Frag} {T : String} {r : V → List V → Hp → VK → Prop} (h : ta σ H fun x H1 => tyV K T x H1 ∧ tb σ H1 fun y H2 => r x [y] H2 Q) : tBM K T r ta (tCons tb tNil) σ H Q := h
theorem x_bm0 {K : PySem.W.Frag} {T : String} {r : V → List V → Hp → VK → Prop} (h : ta σ H fun x H1 => tyV K T x H1 ∧ r x [] H1 Q) : tBM0 K T r ta σ H Q := h
theorem x_drop {u : TS} {D : Ends} (h : te σ H fun _ H1 => u D σ H1) : tSeq (tDrop te) u D σ H := h
theorem x_asg {u : TS} {D : Ends} {g : TG} (h : te σ H fun x H1 => g x σ H1 (u D)) : tSeq (tAsg te g) u D σ H := h
theorem x_ret {u : TS} {D : Ends} (h : te σ H D.rt) : tSeq (tRet te) u D σ H := h
theorem x_ifS {u w z : TS} {D : Ends} {tc : TT} (h : tc σ H fun b H1 => if b = true then u { D with nx := z D } σ H1 else w { D with nx := z D } σ H1) : tSeq (tIfS tc u w) z D σ H := h
theorem x_test {te : TE} {Q : Bool → Hp → Prop} (h : te σ H fun x H' => ∃ k, x = .bl k ∧ Q k H') : tTest te σ H Q := h
theorem x_B {te : TE} {Q : Bool → Hp → Prop} (h : te σ H fun x H' => ∃ k, x = .bl k ∧ Q k H') : tB te σ H Q := h
end

/-! ### errors, def's promises -/
/-- an exception's own dict -/
def XF (K : PySem.W.Frag) (S : Hp) (x : Er) (d : Option Addr) : Prop :=
  (x.fs = [] ∧ d = none) ∨ ∃ dd fsV, d = some dd ∧ S dd = some (.xd fsV) ∧ Paired (fun (p : Str × PyData) (q : Str × V) => p.1 = q.1 ∧ Hd K (eD p.2) q.2 S) x.fs fsV
def ErP (K : PySem.W.Frag) (EC : Str → Addr) (g : Gh) (Gw : List (Option Tm)) (x : Er) (EW : St → XK) : Prop :=
  ∀ σ' H' S' d, AtS K g S' Gw σ' [] H' → XF K S' x d → EW σ' (.ref (EC x.c)) d H'
def Spec (K : PySem.W.Frag) (EC : Str → Addr) {α ρ : Type} (n : Nat) (pre : α → List Addr → List (Option Tm)) (m : α → R ρ) (post : ρ → List Addr → List (Option Tm)) (ret : ρ → Tm) : Sp := fun vs H Q E =>
  vs.length = n ∧ ∃ (x : α) (as : List Addr) (g : Gh), (pre x as).length = n ∧ At K g (pre x as) (vs.map some) [] H ∧
    OutR (m x) (fun r => ∀ v H' σ', At K g (post r as) σ' [(v, ret r)] H' → Q v H') (fun x => ErP K EC g [] x fun _ => E)

/-- an argument: a datum, or the own cell of slot i -/
inductive AK where
  | d (p : VP)
  | o (i : Nat) (oa : Option Addr) (c : Cell)
def AK.tm : AK → Tm
  | .d p => .dat p
  | .o i _ _ => .als i
def preOf : List AK → List Addr → List (Option Tm)
  | [], _ => []
  | .d p :: A, as => some (.dat p) :: preOf A as
  | .o _ _ c :: A, a :: as => some (.own (some a) c) :: preOf A as
  | .o _ _ c :: A, [] => some (.own none c) :: preOf A []
/-- what the callee leaves of its own arguments, by its places -/
def postOf : List AK → List Cell → List Addr → List (Option Tm)
  | [], _, _ => []
  | .d _ :: A, cs, as => none :: postOf A cs as
  | .o _ _ _ :: A, c :: cs, a :: as => some (.own (some a) c) :: postOf A cs as
  | .o _ _ _ :: A, _, _ => none :: postOf A [] []
/-- the caller's slots behind the call -/
def newG : List AK → List Cell → List (Option Tm) → List (Option Tm)
  | [], _, G => G
  | .d _ :: A, cs, G => newG A cs G
  | .o i oa _ :: A, c :: cs, G => (newG A cs (G.set i none)).set i (some (.own oa c))
  | .o i _ _ :: A, [], G => newG A [] (G.set i none)
def dropG : List AK → List (Option Tm) → List (Option Tm)
  | [], G => G
  | .d _ :: A, G => dropG A G
  | .o i _ _ :: A, G => dropG A (G.set i none)
/-- the own arguments are slots of the caller, no one twice -/
def OkA : List AK → List (Option Tm) → Prop
  | [], _ => True
  | .d _ :: A, G => OkA A G
  | .o i oa c :: A, G => G[i]? = some (some (.own oa c)) ∧ OkA A (G.set i none)
def nOwn : List AK → Nat
  | [] => 0
  | .d _ :: A => nOwn A
  | .o _ _ _ :: A => nOwn A + 1

/-- AtS without the aliases' slots -/
structure At0 (K : PySem.W.Frag) (g : Gh) (S : Hp) (Γ : List (Option Tm)) (σ : St) (τ : List (V × Tm)) (H : Hp) : Prop where
  base : Base g S H
  len : Γ.length ≤ σ.length
  all : ∀ x ∈ pack σ Γ ++ τ, One K g S H σ x
  ns : ∀ x ∈ pack σ Γ, ∀ j, x.2 ≠ .als j
  nd : (addrs (pack σ Γ ++ τ)).Nodup
def ownE : List AK → List Addr → List (V × Tm)
  | [], _ => []
  | .d _ :: A, as => ownE A as
  | .o _ oa c :: A, a :: as => (.ref a, .own oa c) :: ownE A as
  | .o _ _ _ :: A, [] => ownE A []
def ownE' : List AK → List Cell → List Addr → List (V × Tm)
  | [], _, _ => []
  | .d _ :: A, cs, as => ownE' A cs as
  | .o _ oa _ :: A, c :: cs, a :: as => (.ref a, .own oa c) :: ownE' A cs as
  | .o _ _ _ :: A, _, _ => ownE' A [] []

section
variable {K : PySem.W.Frag} {Γ : List (Option Tm)} {g : Gh} {S H : Hp} {σ : St} {τ : List (V × Tm)} {v x y : V} {t u z w : Tm} {p q : VP} {ps qs : List VP} {i : Nat}
theorem AtS.at0 (h : AtS K g S Γ σ τ H) : At0 K g S Γ σ τ H := ⟨h.base, h.len, h.all, h.ns, h.nd⟩
theorem At0.take {oa : Option Addr} {c : Cell} (h : At0 K g S Γ σ τ H) (e : Γ[i]? = some (some (.own oa c))) : ∃ a, σ[i]? = some (some (.ref a)) ∧ OwnAt K g S H (.ref a) oa c ∧ At0 K g S (Γ.set i none) σ ((.ref a, .own oa c) :: τ) H := by
  rcases pack_get e h.len with ⟨v, h1, h2⟩ | b
  · have q := h.all _ (List.mem_append_left _ (h2.mem_iff.mpr List.mem_cons_self))
    obtain ⟨a, o, e1, r⟩ := id q
    have e1' : v = V.ref a := e1
    subst e1'
    have p : (pack σ Γ ++ τ).Perm (pack σ (Γ.set i none) ++ (V.ref a, Tm.own oa c) :: τ) := (h2.append_right τ).trans List.perm_middle.symm
    exact ⟨a, h1, q, h.base, by rw [List.length_set]; exact h.len, fun x hx => h.all x (p.mem_iff.mpr hx), fun x hx => h.ns x ((pack_drop Γ σ i).subset hx), (addrs_perm p).nodup_iff.mp h.nd⟩
  · exact (h.all _ (List.mem_append_left _ b)).elim
theorem At0.put (h : At0 K g S Γ σ ((v, t) :: τ) H) (hi : i < Γ.length) (e : σ[i]? = some (some v)) (ht : ∀ j, t ≠ .als j) (hn : Γ[i]? = some none) : At0 K g S (Γ.set i (some t)) σ τ H := by
  have hs : σ.set i (some v) = σ := by
    apply List.ext_getElem?
    intro j
    by_cases hj : i = j
    · subst hj
      rw [List.getElem?_set_self (List.getElem?_eq_some_iff.mp e).1, e]
    · rw [List.getElem?_set_ne hj]
  have eΓ : Γ.set i none = Γ := by
    apply List.ext_getElem?
    intro j
    by_cases hj : i = j
    · subst hj
      rw [List.getElem?_set_self hi, hn]
    · rw [List.getElem?_set_ne hj]
  have p := pack_set (Γ := Γ) (σ := σ) (i := i) v t hi h.len
  rw [hs, eΓ] at p
  have p2 : (pack σ (Γ.set i (some t)) ++ τ).Perm (pack σ Γ ++ (v, t) :: τ) := (p.append_right τ).trans List.perm_middle.symm
  refine ⟨h.base, by rw [List.length_set]; exact h.len, fun x hx => h.all x (p2.mem_iff.mp hx), fun x hx j => ?_, (addrs_perm p2).nodup_iff.mpr h.nd⟩
  rcases List.mem_cons.mp (p.mem_iff.mp hx) with rfl | hx
  · exact ht j
  · exact h.ns x hx j

/-- what is known of the arguments -/
inductive Args (K : PySem.W.Frag) (g : Gh) (S H : Hp) (σ : St) : List AK → List V → List Addr → Prop
  | nil : Args K g S H σ [] [] []
  | d {p : VP} {v : V} {A : List AK} {vs : List V} {as : List Addr} : Hd K p v S → Args K g S H σ A vs as → Args K g S H σ (.d p :: A) (v :: vs) as
  | o {i : Nat} {oa : Option Addr} {c : Cell} {a : Addr} {A : List AK} {vs : List V} {as : List Addr} : σ[i]? = some (some (.ref a)) → OwnAt K g S H (.ref a) oa c → Args K g S H σ A vs as → Args K g S H σ (.o i oa c :: A) (.ref a :: vs) (a :: as)
theorem AtS.pops : ∀ {l : List (V × Tm)} {τ : List (V × Tm)}, AtS K g S Γ σ (l ++ τ) H → AtS K g S Γ σ τ H
  | [], _, h => h
  | _ :: l, _, h => AtS.pops (l := l) h.pop
/-- the arguments on the stack -/
theorem args_of : ∀ {A : List AK} {vs : List V} {Γ : List (Option Tm)} {τ : List (V × Tm)}, (∀ x ∈ (vs.zip (A.map AK.tm)), One K g S H σ x) → vs.length = A.length → OkA A Γ → At0 K g S Γ σ τ H →
    ∃ as, Args K g S H σ A vs as ∧ At0 K g S (dropG A Γ) σ (ownE A as ++ τ) H
  | [], [], Γ, τ, _, _, _, h0 => ⟨[], .nil, h0⟩
  | [], _ :: _, _, _, _, e, _, _ => by simp at e
  | _ :: _, [], _, _, _, e, _, _ => by simp at e
  | .d p :: A, v :: vs, Γ, τ, h, e, ok, h0 => by
    obtain ⟨as, h1, h2⟩ := args_of (A := A) (vs := vs) (Γ := Γ) (τ := τ) (fun x hx => h x (by simp [hx])) (by simpa using e) ok h0
    exact ⟨as, .d (h (v, .dat p) (by simp [AK.tm])) h1, h2⟩
  | .o i oa c :: A, v :: vs, Γ, τ, h, e, ok, h0 => by
    obtain ⟨a, e1, ow, h3⟩ := h0.take ok.1
    have q : σ[i]? = some (some v) := h (v, .als i) (by simp [AK.tm])
    rw [e1] at q
    obtain rfl : V.ref a = v := by simpa using q
    obtain ⟨as, h1, h2⟩ := args_of (A := A) (vs := vs) (Γ := Γ.set i none) (τ := (.ref a, .own oa c) :: τ) (fun x hx => h x (by simp [hx])) (by simpa using e) ok.2 h3
    refine ⟨a :: as, .o e1 ow h1, ?_⟩
    have pm : (pack σ (dropG A (Γ.set i none)) ++ (ownE A as ++ (V.ref a, Tm.own oa c) :: τ)).Perm (pack σ (dropG A (Γ.set i none)) ++ ((V.ref a, Tm.own oa c) :: ownE A as ++ τ)) := (List.perm_middle).append_left _
    exact ⟨h2.base, h2.len, fun x hx => h2.all x (pm.mem_iff.mpr hx), h2.ns, (addrs_perm pm).nodup_iff.mp h2.nd⟩
theorem addrs_ownE : ∀ {A : List AK} {vs : List V} {as : List Addr}, Args K g S H σ A vs as → addrs (ownE A as) = as
  | [], _, _, .nil => rfl
  | .d _ :: A, _, _, .d _ h => addrs_ownE (A := A) h
  | .o _ _ _ :: A, _, _, .o _ _ h => by simp [ownE, addrs, addrs_ownE (A := A) h]
theorem preOf_len : ∀ {A : List AK} {vs : List V} {as : List Addr}, Args K g S H σ A vs as → (preOf A as).length = vs.length
  | [], _, _, .nil => rfl
  | .d _ :: A, _, _, .d _ h => by simp [preOf, preOf_len (A := A) h]
  | .o _ _ _ :: A, _, _, .o _ _ h => by simp [preOf, preOf_len (A := A) h]
/-- how the callee finds its arguments -/
theorem pack_pre {F' : Hp} : ∀ {A : List AK} {vs : List V} {as : List Addr}, Args K g S H σ A vs as → (∀ a ∈ as, F' a = none) →
    (∀ x ∈ pack (vs.map some) (preOf A as), One K ⟨S, F'⟩ S H (vs.map some) x ∧ ∀ j, x.2 ≠ .als j) ∧ addrs (pack (vs.map some) (preOf A as)) = as := by
  intro A vs as h hf
  suffices ∀ σ', (∀ x ∈ pack (vs.map some) (preOf A as), One K ⟨S, F'⟩ S H σ' x ∧ ∀ j, x.2 ≠ .als j) ∧ addrs (pack (vs.map some) (preOf A as)) = as from this _
  intro σ'
  induction h with
  | nil => exact ⟨fun x hx => by simp [preOf, pack] at hx, rfl⟩
  | @d p v A vs as h1 _ ih =>
    obtain ⟨i1, i2⟩ := ih hf
    refine ⟨fun x hx => ?_, ?_⟩
    · rcases List.mem_cons.mp (show x ∈ (v, Tm.dat p) :: pack (vs.map some) (preOf A as) from hx) with rfl | hx
      · exact ⟨h1, fun j z => by cases z⟩
      · exact i1 x hx
    · show addrs ((v, Tm.dat p) :: pack (vs.map some) (preOf A as)) = as
      cases v <;> simpa [addrs] using i2
  | @o i oa c a A vs as h1 h2 _ ih =>
    obtain ⟨i1, i2⟩ := ih fun b hb => hf b (List.mem_cons_of_mem _ hb)
    refine ⟨fun x hx => ?_, ?_⟩
    · rcases List.mem_cons.mp (show x ∈ (V.ref a, Tm.own (some a) c) :: pack (vs.map some) (preOf A as) from hx) with rfl | hx
      · refine ⟨?_, fun j z => by cases z⟩
        obtain ⟨a', o, e, _, k2, _, k4, k5⟩ := h2
        cases e
        exact ⟨a, o, rfl, fun b e => (Option.some.inj e).symm, k2, hf a List.mem_cons_self, k4, k5⟩
      · exact i1 x hx
    · show addrs ((V.ref a, Tm.own (some a) c) :: pack (vs.map some) (preOf A as)) = a :: as
      simp [addrs, i2]
/-- what the callee leaves of them -/
theorem post_own {S2 H2 : Hp} {g' : Gh} {σ2 : St} : ∀ {A : List AK} {vs : List V} {as : List Addr} {cs : List Cell} {σ3 : St}, Args K g S H σ A vs as → cs.length = nOwn A → (∀ x ∈ pack σ3 (postOf A cs as), One K g' S2 H2 σ2 x) →
    (∀ x ∈ ownE' A cs as, One K g S2 H2 σ x) ∧ addrs (ownE' A cs as) = as ∧ ∀ a ∈ as, a ∈ addrs (pack σ3 (postOf A cs as)) := by
  intro A vs as cs σ3 h
  induction h generalizing cs σ3 with
  | nil => intro _ _; exact ⟨fun x hx => by simp [ownE'] at hx, rfl, fun a ha => by cases ha⟩
  | @d p v A vs as h1 _ ih =>
    intro hc hp
    exact ih (σ3 := σ3.tail) hc fun x hx => hp x hx
  | @o i oa c a A vs as h1 h2 _ ih =>
    intro hc hp
    cases cs with
    | nil => simp [nOwn] at hc
    | cons c' cs =>
      have hd : ∃ w r, (w, Tm.own (some a) c') ∈ pack σ3 (postOf (.o i oa c :: A) (c' :: cs) (a :: as)) ∧ r = σ3.tail ∧ (∀ x ∈ pack r (postOf A cs as), x ∈ pack σ3 (postOf (.o i oa c :: A) (c' :: cs) (a :: as))) := by
        cases σ3 with
        | nil =>
          exact ((hp (V.non, Tm.bad) (by simp [postOf, pack])) : False).elim
        | cons y r =>
          cases y with
          | none => exact ((hp (V.non, Tm.bad) (by simp [postOf, pack])) : False).elim
          | some w => exact ⟨w, r, by simp [postOf, pack], rfl, fun x hx => by simp [postOf, pack, hx]⟩
      obtain ⟨w, r, m1, _, m2⟩ := hd
      obtain ⟨i1, i2, i3⟩ := ih (cs := cs) (σ3 := r) (by simpa [nOwn] using hc) fun x hx => hp x (m2 x hx)
      obtain ⟨a1, o1, e1, e2, k2, _, k4, k5⟩ := hp _ m1
      have ea : a = a1 := e2 a rfl
      subst ea
      obtain ⟨a0, o0, e0, j1, _, j3, _, _⟩ := h2
      cases e0
      refine ⟨fun x hx => ?_, by simp [ownE', addrs, i2], fun b hb => ?_⟩
      rotate_left
      · have ew : w = V.ref a := e1
        rcases List.mem_cons.mp hb with rfl | hb
        · rw [ew] at m1
          exact mem_addrs m1
        · obtain ⟨oa2, c2, hx⟩ := addrs_mem (i3 b hb)
          exact mem_addrs (m2 _ hx)
      rcases List.mem_cons.mp (show x ∈ (V.ref a, Tm.own oa c') :: ownE' A cs as from hx) with rfl | hx
      · exact ⟨a, o1, rfl, j1, k2, j3, k4, k5⟩
      · exact i1 x hx
theorem newG_len : ∀ (A : List AK) (cs : List Cell) (G : List (Option Tm)), (newG A cs G).length = G.length
  | [], _, _ => rfl
  | .d _ :: A, cs, G => newG_len A cs G
  | .o i _ _ :: A, c :: cs, G => by simp [newG, newG_len A cs]
  | .o i _ _ :: A, [], G => by simp [newG, newG_len A []]
/-- slots that are no arguments stay -/
theorem newG_none : ∀ (A : List AK) (cs : List Cell) (G : List (Option Tm)) (i : Nat), G[i]? = some none → OkA A G → (newG A cs G)[i]? = some none
  | [], _, _, _, h, _ => h
  | .d _ :: A, cs, G, i, h, ok => newG_none A cs G i h ok
  | .o j oa c :: A, c' :: cs, G, i, h, ok => by
    have hj : j ≠ i := fun z => by rw [z] at ok; rw [ok.1] at h; cases h
    show ((newG A cs (G.set j none)).set j _)[i]? = some none
    rw [List.getElem?_set_ne hj]
    exact newG_none A cs (G.set j none) i (by rw [List.getElem?_set_ne hj]; exact h) ok.2
  | .o j oa c :: A, [], G, i, h, ok => by
    have hj : j ≠ i := fun z => by rw [z] at ok; rw [ok.1] at h; cases h
    exact newG_none A [] (G.set j none) i (by rw [List.getElem?_set_ne hj]; exact h) ok.2
theorem newG_own : ∀ (A : List AK) (cs : List Cell) (G : List (Option Tm)) (k : Nat), cs.length = nOwn A → OkA A G → (∃ oa c, G[k]? = some (some (.own oa c))) → ∃ oa c, (newG A cs G)[k]? = some (some (.own oa c))
  | [], _, _, _, _, _, h => h
  | .d _ :: A, cs, G, k, hc, ok, h => newG_own A cs G k hc ok h
  | .o j oa c :: A, [], G, k, hc, ok, h => by simp [nOwn] at hc
  | .o j oa c :: A, c' :: cs, G, k, hc, ok, h => by
    by_cases hj : j = k
    · subst hj
      refine ⟨oa, c', ?_⟩
      show ((newG A cs (G.set j none)).set j _)[j]? = _
      rw [List.getElem?_set_self]
      rw [newG_len, List.length_set]
      exact (List.getElem?_eq_some_iff.mp ok.1).1
    · show ∃ oa' c'', ((newG A cs (G.set j none)).set j _)[k]? = _
      rw [List.getElem?_set_ne hj]
      exact newG_own A cs (G.set j none) k (by simpa [nOwn] using hc) ok.2 (by rw [List.getElem?_set_ne hj]; exact h)
/-- they come back to their slots -/
theorem put_back {S2 H2 : Hp} : ∀ {A : List AK} {vs : List V} {as : List Addr} {cs : List Cell} {Γ : List (Option Tm)} {τ : List (V × Tm)}, Args K g S H σ A vs as → cs.length = nOwn A → OkA A Γ →
    At0 K g S2 (dropG A Γ) σ (ownE' A cs as ++ τ) H2 → At0 K g S2 (newG A cs Γ) σ τ H2
  | [], _, _, _, _, _, .nil, _, _, h => h
  | .d _ :: A, _, _, _, _, _, .d _ a, hc, ok, h => put_back (A := A) a hc ok h
  | .o i oa c :: A, _, _, [], _, _, .o _ _ _, hc, _, _ => by simp [nOwn] at hc
  | .o i oa c :: A, _, a :: as, c' :: cs, Γ, τ, .o e1 ow ar, hc, ok, h => by
    have pm : (pack σ (dropG A (Γ.set i none)) ++ ((V.ref a, Tm.own oa c') :: ownE' A cs as ++ τ)).Perm (pack σ (dropG A (Γ.set i none)) ++ (ownE' A cs as ++ (V.ref a, Tm.own oa c') :: τ)) := (List.perm_middle.symm).append_left _
    have h' : At0 K g S2 (dropG A (Γ.set i none)) σ (ownE' A cs as ++ (V.ref a, Tm.own oa c') :: τ) H2 := ⟨h.base, h.len, fun x hx => h.all x (pm.mem_iff.mpr hx), h.ns, (addrs_perm pm).nodup_iff.mp h.nd⟩
    have h2 := put_back (A := A) ar (by simpa [nOwn] using hc) ok.2 h'
    have hi : i < Γ.length := (List.getElem?_eq_some_iff.mp ok.1).1
    refine h2.put (i := i) (by rw [newG_len, List.length_set]; exact hi) e1 (fun j z => by cases z) ?_
    exact newG_none A cs (Γ.set i none) i (List.getElem?_set_self hi) ok.2

theorem Args.inF : ∀ {A : List AK} {vs : List V} {as : List Addr}, Args K g S H σ A vs as → ∀ a ∈ as, g.F a = none ∧ S a = none
  | _, _, _, .nil, a, h => by cases h
  | _, _, _, .d _ r, a, h => Args.inF r a h
  | _, _, _, .o _ ow r, a, h => by
    rcases List.mem_cons.mp h with rfl | h
    · obtain ⟨a', o, e, _, k2, k3, _⟩ := ow
      cases e
      exact ⟨k3, k2⟩
    · exact Args.inF r a h
theorem Args.n {A : List AK} {vs : List V} {as : List Addr} (h : Args K g S H σ A vs as) : as.length = nOwn A := by
  induction h with
  | nil => rfl
  | d _ _ ih => exact ih
  | o _ _ _ ih => simp [nOwn, ih]
/-- THE CALL of a def by its promise -/
theorem f_call {EC : Str → Addr} {α ρ : Type} {n : Nat} {pre : α → List Addr → List (Option Tm)} {m : α → R ρ} {post : ρ → List Addr → List (Option Tm)} {ret : ρ → Tm} {Q : VK} {vs : List V} {Γw : List (Option Tm)} {EW : St → XK}
    (A : List AK) (arg : α) (cs : ρ → List Cell) (hA : At K g Γ σ ((vs.zip (A.map AK.tm)).reverse ++ τ) H) (hl : vs.length = A.length) (hn : A.length = n) (ok : OkA A Γ)
    (hpre : ∀ as, as.length = nOwn A → pre arg as = preOf A as) (hcs : ∀ r, (cs r).length = nOwn A) (hpost : ∀ r as, as.length = nOwn A → post r as = postOf A (cs r) as) (hret : ∀ r j, ret r ≠ .als j) (hw : Le Γw (dropG A Γ))
    (hm : OutR (m arg) (fun r => ∀ v H', At K g (newG A (cs r) Γ) σ ((v, ret r) :: τ) H' → Q v H') (fun x => ErP K EC g Γw x EW)) : Spec K EC n pre m post ret vs H Q (EW σ) := by
  obtain ⟨S, h⟩ := hA
  have hl2 : vs.length = (A.map AK.tm).length := by simpa using hl
  have hτ := h.pops
  obtain ⟨as, ar, h0⟩ := args_of (A := A) (vs := vs) (Γ := Γ) (τ := τ) (fun x hx => h.all x (List.mem_append_right _ (List.mem_append_left _ (List.mem_reverse.mpr hx)))) hl ok hτ.at0
  have hcl := ar.n
  have nd0 := h0.nd
  have ndas : as.Nodup := by
    rw [addrs_append, addrs_append, addrs_ownE ar] at nd0
    exact (List.nodup_append.mp (List.nodup_append.mp nd0).2.1).1
  refine ⟨by rw [hl, hn], arg, as, ⟨S, fun b => if b ∈ as then none else H b⟩, by rw [hpre _ hcl, preOf_len ar, hl, hn], ?_, ?_⟩
  · rw [hpre _ hcl]
    obtain ⟨p1, p2⟩ := pack_pre (F' := fun b => if b ∈ as then none else H b) ar fun a ha => if_pos ha
    refine ⟨S, ⟨Same.refl S, h.base.sh, fun b o e => ?_, fun b _ h0 => h0⟩, ?_, fun x hx => ?_, fun x hx => ?_, fun x hx => (by cases hx), ?_⟩
    · have e : (if b ∈ as then none else H b) = some o := e
      by_cases hb : b ∈ as
      · rw [if_pos hb] at e; cases e
      · rw [if_neg hb] at e; exact e
    · rw [preOf_len ar, List.length_map]; exact Nat.le_refl _
    · rw [List.append_nil] at hx
      exact (p1 x hx).1
    · exact (p1 x hx).2
    · rw [List.append_nil, p2]; exact ndas
  · have F1 : ∀ b, (if b ∈ as then none else H b) = none → g.F b = none := fun b e => by
      by_cases hb : b ∈ as
      · exact (ar.inF b hb).1
      · rw [if_neg hb] at e
        cases e2 : g.F b with
        | none => rfl
        | some o => rw [h.base.fh b o e2] at e; cases e
    have F2 : ∀ b o, g.F b = some o → (if b ∈ as then none else H b) = some o := fun b o e => by
      have hb : b ∉ as := fun z => by rw [(ar.inF b z).1] at e; cases e
      rw [if_neg hb]; exact h.base.fh b o e
    -- the ground behind the call
    have ground : ∀ {S2 H2 : Hp}, Base ⟨S, fun b => if b ∈ as then none else H b⟩ S2 H2 → Base g S2 H2 := fun {S2 H2} B =>
      ⟨h.base.s0.trans B.s0, B.sh, fun b o e => B.fh b o (F2 b o e), fun b hb h0' => B.fs b (by
        obtain ⟨o, e⟩ := Option.ne_none_iff_exists'.mp hb
        show (if b ∈ as then none else H b) ≠ none
        rw [F2 b o e]; exact Option.some_ne_none o) (h.base.fs b hb h0')⟩
    have stay : ∀ {S2 H2 : Hp} {x : V × Tm}, Base ⟨S, fun b => if b ∈ as then none else H b⟩ S2 H2 → (∀ a oa c, x = (.ref a, .own oa c) → a ∉ as) → One K g S H σ x → One K g S2 H2 σ x := fun {S2 H2 x} B ha q => by
      obtain ⟨v, t⟩ := x
      refine q.keep B.s0 fun b ht hv => ?_
      obtain ⟨oa, c, rfl⟩ := ht
      subst hv
      have hb := ha b oa c rfl
      obtain ⟨a', o, e, _, k2, _, k4, _⟩ := q
      cases e
      have eF : (if b ∈ as then none else H b) = some o := by rw [if_neg hb]; exact k4
      exact ⟨(B.fs b (by show (if b ∈ as then none else H b) ≠ none; rw [eF]; exact Option.some_ne_none o) k2).trans k2.symm, (B.fh b o eF).trans k4.symm⟩
    have apart : ∀ x ∈ pack σ (dropG A Γ) ++ τ, ∀ a oa c, x = (V.ref a, Tm.own oa c) → a ∉ as := fun x hx a oa c e ha => by
      subst e
      have pm : (pack σ (dropG A Γ) ++ (ownE A as ++ τ)).Perm (ownE A as ++ (pack σ (dropG A Γ) ++ τ)) := by
        rw [← List.append_assoc, ← List.append_assoc]
        exact (List.perm_append_comm).append_right τ
      have nd1 := (addrs_perm pm).nodup_iff.mp nd0
      rw [addrs_append, addrs_ownE ar] at nd1
      exact (List.nodup_append.mp nd1).2.2 a ha a (mem_addrs hx) rfl
    refine hm.imp (fun r k v H2 σ2 h2 => ?_) fun x k σ2 H2 S2 dd h2 => ?_
    · obtain ⟨S2, h2⟩ := h2
      rw [hpost r as hcl] at h2
      obtain ⟨o1, o2, o3⟩ := post_own (g := g) (S := S) (H := H) (σ := σ) (g' := ⟨S, fun b => if b ∈ as then none else H b⟩) (S2 := S2) (H2 := H2) (σ2 := σ2) (σ3 := σ2) ar (hcs r) fun x hx => h2.all x (List.mem_append_left _ hx)
      have top : One K g S2 H2 σ (v, ret r) := by
        have q := h2.top
        cases e : ret r with
        | dat p => rw [e] at q; exact q
        | own oa c =>
          rw [e] at q
          obtain ⟨a, o, e1, e2, e3, e4, e5, e6⟩ := q
          exact ⟨a, o, e1, e2, e3, F1 a e4, e5, e6⟩
        | als j => exact absurd e (hret r j)
        | bad => rw [e] at q; exact q
      have B := ground h2.base
      have fin : At0 K g S2 (dropG A Γ) σ (ownE' A (cs r) as ++ (v, ret r) :: τ) H2 := by
        refine ⟨B, h0.len, fun x hx => ?_, h0.ns, ?_⟩
        · rcases List.mem_append.mp hx with hx | hx
          · exact stay h2.base (apart x (List.mem_append_left _ hx)) (h0.all x (List.mem_append_left _ hx))
          · rcases List.mem_append.mp hx with hx | hx
            · exact o1 x hx
            · rcases List.mem_cons.mp hx with rfl | hx
              · exact top
              · exact stay h2.base (apart x (List.mem_append_right _ hx)) (h0.all x (List.mem_append_right _ (List.mem_append_right _ hx)))
        · have base_nd : (addrs (pack σ (dropG A Γ) ++ (ownE' A (cs r) as ++ τ))).Nodup := by
            rw [addrs_append, addrs_append, o2, ← addrs_ownE ar, ← addrs_append, ← addrs_append]
            exact nd0
          have pm : (pack σ (dropG A Γ) ++ (ownE' A (cs r) as ++ (v, ret r) :: τ)).Perm ((v, ret r) :: (pack σ (dropG A Γ) ++ (ownE' A (cs r) as ++ τ))) := by
            have p1 : (ownE' A (cs r) as ++ (v, ret r) :: τ).Perm ((v, ret r) :: (ownE' A (cs r) as ++ τ)) := List.perm_middle
            exact (p1.append_left _).trans List.perm_middle
          refine (addrs_perm pm).nodup_iff.mpr ?_
          cases ev : v with
          | ref b =>
            cases et : ret r with
            | own oa c =>
              show (b :: addrs (pack σ (dropG A Γ) ++ (ownE' A (cs r) as ++ τ))).Nodup
              refine List.nodup_cons.mpr ⟨fun hb => ?_, base_nd⟩
              have q := h2.top
              rw [ev, et] at q
              obtain ⟨b', o, e1, _, _, e4, _, _⟩ := q
              cases e1
              have e4' : (if b ∈ as then none else H b) = none := e4
              have nb : b ∉ as := fun hbas => by
                have n2 := h2.nd
                rw [addrs_append, ev, et] at n2
                exact (List.nodup_append.mp n2).2.2 b (o3 b hbas) b (by simp [addrs]) rfl
              rw [if_neg nb] at e4'
              obtain ⟨oa', c', hx⟩ := addrs_mem hb
              have inold : (V.ref b, Tm.own oa' c') ∈ pack σ (dropG A Γ) ++ τ := by
                rcases List.mem_append.mp hx with hx | hx
                · exact List.mem_append_left _ hx
                · rcases List.mem_append.mp hx with hx | hx
                  · exact absurd (by have := mem_addrs hx; rw [o2] at this; exact this) nb
                  · exact List.mem_append_right _ hx
              have q2 : One K g S H σ (V.ref b, Tm.own oa' c') := by
                rcases List.mem_append.mp inold with hx | hx
                · exact h0.all _ (List.mem_append_left _ hx)
                · exact h0.all _ (List.mem_append_right _ (List.mem_append_right _ hx))
              obtain ⟨b', o', e1, _, _, _, e5, _⟩ := q2
              cases e1
              rw [e4'] at e5; cases e5
            | dat p => exact base_nd
            | als j => exact base_nd
            | bad => exact base_nd
          | _ => cases ret r <;> exact base_nd
      have h3 := put_back (A := A) (cs := cs r) (Γ := Γ) (τ := (v, ret r) :: τ) ar (hcs r) ok fin
      refine k v H2 ⟨S2, h3.base, h3.len, h3.all, h3.ns, fun x hx j e => ?_, h3.nd⟩
      rcases List.mem_cons.mp hx with rfl | hx
      · exact absurd e (hret r j)
      · exact newG_own A (cs r) Γ j (hcs r) ok (hτ.al x hx j e)
    · intro hxf
      have fin : AtS K g S2 (dropG A Γ) σ [] H2 := by
        refine ⟨ground h2.base, h0.len, fun x hx => ?_, h0.ns, fun x hx => (by cases hx), ?_⟩
        · rw [List.append_nil] at hx
          exact stay h2.base (apart x (List.mem_append_left _ hx)) (h0.all x (List.mem_append_left _ hx))
        · rw [List.append_nil]
          rw [addrs_append] at nd0
          exact (List.nodup_append.mp nd0).1
      have fin2 : AtS K g S2 Γw σ [] H2 := by
        have sub : (pack σ Γw ++ []).Sublist (pack σ (dropG A Γ) ++ []) := (hw.sub σ).append_right []
        exact ⟨fin.base, Nat.le_trans hw.len fin.len, fun x hx => fin.all x (sub.subset hx), fun x hx => fin.ns x ((hw.sub σ).subset hx), fun x hx => (by cases hx), fin.nd.sublist (addrs_sub sub)⟩
      exact k σ H2 S2 dd fin2 hxf
end
end Gv

set_option Elab.async false
set_option linter.all false
set_option maxRecDepth 100000
set_option maxHeartbeats 1000000
/-! Gv: statements, loops, comprehensions, defs -/
namespace Gv
open PySem L2

structure Fx (ρ : Type) where
  EC : Str → Addr
  post : ρ → List (Option Tm)
  ret : ρ → Tm
  Gw : List (Option Tm)
  EW : St → XK
abbrev NxW (K : PySem.W.Frag) (g : Gh) {α : Type} (n : α → List (Option Tm)) (P : St → Hp → Prop) : α → Prop := fun a => ∀ σ' H', At K g (n a) σ' [] H' → P σ' H'
abbrev RtW (K : PySem.W.Frag) (g : Gh) {ρ : Type} (X : Fx ρ) (P : VK) : ρ → Prop := fun r => ∀ v H' σ', At K g (X.post r) σ' [(v, X.ret r)] H' → P v H'
abbrev ErW (K : PySem.W.Frag) (g : Gh) {ρ : Type} (X : Fx ρ) : Er → Prop := fun x => ErP K X.EC g X.Gw x X.EW
/-- a block does what the mirror tells -/
def BJ (K : PySem.W.Frag) {ρ lam α : Type} (X : Fx ρ) (Γ : List (Option Tm)) (ts : TS) (m : O ρ lam α) (n : α → List (Option Tm)) (b c : lam → List (Option Tm)) : Prop :=
  ∀ g σ H (D : Ends), At K g Γ σ [] H → Out m (NxW K g n D.nx) (RtW K g X D.rt) (NxW K g b D.bk) (NxW K g c D.ct) (ErW K g X) → ts D σ H

section
variable {K : PySem.W.Frag} {ρ lam α β γ : Type} {X : Fx ρ} {Γ Γ' : List (Option Tm)} {n : α → List (Option Tm)} {b c : lam → List (Option Tm)} {t u : TS} {ta tb te : TE} {tc : TT} {m m1 m2 : O ρ lam α} {i : Nat} {p : VP}

theorem bj_nx {a : α} (l : Le (n a) Γ) : BJ K X Γ tNext (.nx a : O ρ lam α) n b c := fun g σ H D hA hm => hm σ H (hA.weak l)
theorem bj_bk {a : lam} (l : Le (b a) Γ) : BJ K X Γ (tSeq tBreak u) (.bk a : O ρ lam α) n b c := fun g σ H D hA hm => hm σ H (hA.weak l)
theorem bj_ct {a : lam} (l : Le (c a) Γ) : BJ K X Γ (tSeq tCont u) (.ct a : O ρ lam α) n b c := fun g σ H D hA hm => hm σ H (hA.weak l)
theorem bj_pass (h : BJ K X Γ u m n b c) : BJ K X Γ (tSeq tNext u) m n b c := h
theorem bj_ret {r : ρ} (he : EV K Γ te (X.ret r)) (hr : ∀ j, X.ret r ≠ .als j) (l : Le (X.post r) Γ) : BJ K X Γ (tSeq (tRet te) u) (.rt r : O ρ lam α) n b c := fun g σ H D hA hm =>
  he g σ [] H D.rt hA fun v H' h' => hm v H' σ (h'.weak1 l hr)
theorem bj_retN {r : ρ} (hr : X.ret r = .dat eN) (l : Le (X.post r) Γ) : BJ K X Γ (tSeq tRetN u) (.rt r : O ρ lam α) n b c := fun g σ H D hA hm =>
  hm .non H σ (by
    have : At K g Γ σ [(.non, .dat eN)] H := hA.scal fun _ => rfl
    rw [hr]
    exact this.weak1 l fun j z => by cases z)
/-- return of an own list that stands in a slot -/
theorem bj_retO {r : ρ} {oa : Option Addr} {cl : Cell} (hg : Γ[i]? = some (some (.own oa cl))) (hr : X.ret r = .own none cl) (l : Le (X.post r) (Γ.set i none)) : BJ K X Γ (tSeq (tRet (tVar i)) u) (.rt r : O ρ lam α) n b c := fun g σ H D ⟨S, hA⟩ hm => by
  obtain ⟨a, e1, ow, h0⟩ := hA.at0.take hg
  refine ⟨.ref a, e1, hm (.ref a) H σ ?_⟩
  rw [hr]
  refine At.weak1 ⟨S, h0.base, h0.len, fun x hx => ?_, h0.ns, fun x hx k e => ?_, ?_⟩ l (fun j z => by cases z)
  · rcases List.mem_append.mp hx with hx | hx
    · exact h0.all x (List.mem_append_left _ hx)
    · have : x = (V.ref a, Tm.own none cl) := by simpa using hx
      subst this
      obtain ⟨a', o, e, _, k⟩ := ow
      exact ⟨a', o, e, fun b z => (nomatch z), k⟩
  · have : x = (V.ref a, Tm.own none cl) := by simpa using hx
    subst this
    cases e
  · have := h0.nd
    rw [addrs_append] at this ⊢
    exact this
/-- return of an own list, frozen -/
theorem bj_retF {r : ρ} {oa : Option Addr} {ps : List VP} (hg : Γ[i]? = some (some (.own oa (.lst ps)))) (hr : X.ret r = .dat (rL ps)) (l : Le (X.post r) (Γ.set i none)) : BJ K X Γ (tSeq (tRet (tVar i)) u) (.rt r : O ρ lam α) n b c := fun g σ H D hA hm => by
  refine bj_retO (K := K) (X := { X with ret := fun _ => .own none (.lst ps) }) (u := u) (n := n) (b := b) (c := c) (r := r) hg rfl l g σ H D hA (fun v H' σ' h' => ?_)
  have := h'.frz
  rw [← hr] at this
  exact hm v H' σ' this
theorem bj_seq {n1 : β → List (Option Tm)} {m1 : O ρ lam β} {f : β → O ρ lam α} (h1 : BJ K X Γ t m1 n1 b c) (h2 : ∀ a, BJ K X (n1 a) u (f a) n b c) : BJ K X Γ (tSeq t u) (m1.bind f) n b c := fun g σ H D hA hm =>
  h1 g σ H { D with nx := u D } hA (hm.bind.imp (fun a q σ' H' h' => h2 a g σ' H' D h' q) (fun _ q => q) (fun _ q => q) (fun _ q => q) fun _ q => q)
/-- a = e -/
theorem bj_asg {f : β → O ρ lam α} {e : β} (tm : β → Tm) (he : EV K Γ te (tm e)) (hn : ∀ t j, tm t ≠ .als j) (h : ∀ t, BJ K X (Γ.set i (some (tm t))) u (f t) n b c) (hi : Γ[i]?.isSome = true := by rfl) : BJ K X Γ (tSeq (tAsg te (gName i)) u) (lt e f) n b c := fun g σ H D hA hm =>
  he g σ [] H _ hA fun v H' ⟨S, h'⟩ => h e g _ H' D ⟨S, h'.set (by
    obtain ⟨x, hx⟩ := Option.isSome_iff_exists.mp hi
    exact (List.getElem?_eq_some_iff.mp hx).1) (hn e) (fun x hx => (by cases hx))⟩ hm
theorem At.set1 {g : Gh} {σ : St} {H : Hp} {v : V} {t : Tm} (h : At K g Γ σ [(v, t)] H) (hn : ∀ j, t ≠ .als j) (hi : Γ[i]?.isSome = true) : At K g (Γ.set i (some t)) (σ.set i (some v)) [] H := by
  obtain ⟨S, h⟩ := h
  obtain ⟨x, hx⟩ := Option.isSome_iff_exists.mp hi
  exact ⟨S, h.set (List.getElem?_eq_some_iff.mp hx).1 hn (fun x hx => (by cases hx))⟩
theorem bj_if {cc : Bool} (hc : EVB K Γ tc cc) (h1 : BJ K X Γ t m1 n b c) (h2 : BJ K X Γ u m2 n b c) : BJ K X Γ (tIfS tc t u) (if cc then m1 else m2) n b c := fun g σ H D hA hm =>
  hc g σ [] H _ hA fun H' h' => by
    cases cc with
    | true => exact h1 g σ H' D h' hm
    | false => exact h2 g σ H' D h' hm
/-- an if whose first branch leaves -/
theorem bj_ifL {w : TS} {cc : Bool} (hc : EVB K Γ tc cc) (h1 : BJ K X Γ (tSeq t w) m1 n b c) (h2 : BJ K X Γ (tSeq u w) m2 n b c) : BJ K X Γ (tSeq (tIfS tc t u) w) (if cc then m1 else m2) n b c := fun g σ H D hA hm =>
  hc g σ [] H _ hA fun H' h' => by
    cases cc with
    | true => exact h1 g σ H' D h' hm
    | false => exact h2 g σ H' D h' hm
theorem bj_weak (l : Le Γ' Γ) (h : BJ K X Γ' t m n b c) : BJ K X Γ t m n b c := fun g σ H D hA hm => h g σ H D (hA.weak l) hm
theorem bj_drop (he : EV K Γ te p') (h : BJ K X Γ u m n b c) : BJ K X Γ (tSeq (tDrop te) u) m n b c := fun g σ H D hA hm =>
  he g σ [] H _ hA fun v H' h' => h g σ H' D h'.pop hm
theorem bj_let {f : β → O ρ lam α} {e : β} (h : BJ K X Γ u (f e) n b c) : BJ K X Γ u (lt e f) n b c := h

/-! ### methods of own lists -/
def appR {α : Type} (xs : List α) (x : α) : R (List α) := gd (decide (xs.length < 1000000)) (xs ++ [x])
def popR {α : Type} (xs : List α) : R (α × List α) := match xs[xs.length - 1]? with
  | some y => .nx (y, xs.dropLast)
  | none => .stuck
def setR {α : Type} (xs : List α) (i : Int) (x : α) : R (List α) := match ixN xs.length i with
  | some j => .nx (xs.set j x)
  | none => .stuck
theorem AtS.tyL {g : Gh} {S H : Hp} {σ : St} {τ : List (V × Tm)} {v : V} {t : Tm} {ps : List VP} (h : AtS K g S Γ σ τ H) (hm : (v, t) ∈ τ) (hl : IsL Γ t ps) : tyV K "list" v H := by
  obtain ⟨a, vs, rfl, h2, _⟩ := h.isL hm hl
  exact .inl ⟨rfl, vs, h2⟩
/-- behind a write, the alias on the stack goes -/
theorem AtS.wr {g : Gh} {S H : Hp} {σ : St} {τ : List (V × Tm)} {oa : Option Addr} {c c' : Cell} {o' : HO} {v : V} (h : AtS K g S Γ σ τ H) (hm : (v, .als i) ∈ τ) (e : Γ[i]? = some (some (.own oa c))) (k : CellOk K S c' o') :
    ∃ a o, v = .ref a ∧ H a = some o ∧ CellOk K S c o ∧ AtS K g S (Γ.set i (some (.own oa c'))) σ τ (upd H a o') := by
  obtain ⟨a, o, e1, e2, e3, e4⟩ := h.write e k
  have q : σ[i]? = some (some v) := h.all _ (List.mem_append_right _ hm)
  rw [e1] at q
  exact ⟨a, o, by simpa using q.symm, e2, e3, e4⟩
/-- xs.append(x): the item on top, the alias below it -/
theorem f_app {g : Gh} {H : Hp} {σ : St} {τ : List (V × Tm)} {e : α → VP} {xs : List α} {a : α} {x y : V} {oa : Option Addr} {Q : VK} {E : Er → Prop} (hg : Γ[i]? = some (some (.own oa (.lst (xs.map e))))) (hA : At K g Γ σ ((y, .dat (e a)) :: (x, .als i) :: τ) H)
    (hm : OutR (appR xs a) (fun ys => ∀ H', At K g (Γ.set i (some (.own oa (.lst (ys.map e))))) σ τ H' → Q .non H') E) : rAppend x [y] H Q := by
  obtain ⟨S, h⟩ := hA
  obtain ⟨hc, k⟩ := hm.gd
  obtain ⟨a', vs, rfl, h2, h3⟩ := h.isO (List.mem_cons_of_mem _ List.mem_cons_self) (.als hg)
  have d : Hds K S ((xs ++ [a]).map e) (vs ++ [y]) := by
    rw [List.map_append]
    exact h3.append (.cons h.top .nil)
  obtain ⟨a2, o, e1, _, _, e4⟩ := h.wr (v := .ref a') (List.mem_cons_of_mem _ List.mem_cons_self) hg (c' := .lst ((xs ++ [a]).map e)) (o' := .lst (vs ++ [y])) ⟨_, rfl, d⟩
  cases e1
  refine ⟨a', vs, y, rfl, rfl, h2, ?_, k _ ⟨S, e4.pop.pop⟩⟩
  rw [h3.len, List.length_map]
  exact lt_line (of_decide_eq_true hc)
theorem bj_app {f : List β → O ρ lam α} {e : β → VP} {xs : List β} {a : β} {oa : Option Addr} (hg : Γ[i]? = some (some (.own oa (.lst (xs.map e))))) (he : EV K Γ te (.dat (e a)))
    (h : ∀ ys, BJ K X (Γ.set i (some (.own oa (.lst (ys.map e))))) u (f ys) n b c) : BJ K X Γ (tSeq (tDrop (tBM K "list" rAppend (tVar i) (tCons te tNil))) u) (bindR (appR xs a) f) n b c := fun g σ H D hA hm =>
  x_drop <| x_bm1 <| ev_own hg g σ [] H _ hA fun x H1 ⟨S, h1⟩ => ⟨h1.tyL List.mem_cons_self (.als hg), he g σ _ H1 _ ⟨S, h1⟩ fun y H2 h2 =>
    f_app hg h2 (hm.bindR.imp (fun ys q H3 h3 => h ys g σ H3 D h3 q) fun _ q => q)⟩
/-- xs.pop() -/
theorem f_pop {g : Gh} {H : Hp} {σ : St} {τ : List (V × Tm)} {e : α → VP} {xs : List α} {x : V} {oa : Option Addr} {Q : VK} {E : Er → Prop} (hg : Γ[i]? = some (some (.own oa (.lst (xs.map e))))) (hA : At K g Γ σ ((x, .als i) :: τ) H)
    (hm : OutR (popR xs) (fun r => ∀ v H', At K g (Γ.set i (some (.own oa (.lst (r.2.map e))))) σ ((v, .dat (e r.1)) :: τ) H' → Q v H') E) : rPop x [] H Q := by
  obtain ⟨S, h⟩ := hA
  unfold popR at hm
  cases e0 : xs[xs.length - 1]? with
  | none => rw [e0] at hm; exact hm.elim
  | some y =>
    rw [e0] at hm
    obtain ⟨a', vs, rfl, h2, h3⟩ := h.isO List.mem_cons_self (.als hg)
    have e1 : (xs.map e)[xs.length - 1]? = some (e y) := by rw [List.getElem?_map, e0]; rfl
    obtain ⟨w, w1, w2⟩ := h3.get e1
    have d : Hds K S (xs.dropLast.map e) vs.dropLast := by
      rw [List.map_dropLast]
      exact h3.dropLast
    obtain ⟨a2, o, e2, _, _, e4⟩ := h.wr (v := .ref a') List.mem_cons_self hg (c' := .lst (xs.dropLast.map e)) (o' := .lst vs.dropLast) ⟨_, rfl, d⟩
    cases e2
    refine ⟨a', vs, w, rfl, rfl, h2, ?_, hm w _ ⟨S, e4.pop.push w2⟩⟩
    rw [h3.len, List.length_map]
    exact w1
theorem x_pop {σ : St} {H : Hp} {Q : VK} {g : Gh} {τ : List (V × Tm)} {e : α → VP} {xs : List α} {oa : Option Addr} {E : Er → Prop} (hg : Γ[i]? = some (some (.own oa (.lst (xs.map e))))) (hA : At K g Γ σ τ H)
    (hm : OutR (popR xs) (fun r => ∀ v H', At K g (Γ.set i (some (.own oa (.lst (r.2.map e))))) σ ((v, .dat (e r.1)) :: τ) H' → Q v H') E) : tBM0 K "list" rPop (tVar i) σ H Q :=
  ev_own hg g σ τ H _ hA fun x H1 ⟨S, h1⟩ => ⟨h1.tyL List.mem_cons_self (.als hg), f_pop hg ⟨S, h1⟩ hm⟩
/-- xs.reverse() -/
theorem bj_rev {f : List β → O ρ lam α} {e : β → VP} {xs : List β} {oa : Option Addr} (hg : Γ[i]? = some (some (.own oa (.lst (xs.map e)))))
    (h : ∀ ys, BJ K X (Γ.set i (some (.own oa (.lst (ys.map e))))) u (f ys) n b c) : BJ K X Γ (tSeq (tDrop (tBM0 K "list" rReverse (tVar i))) u) (lt xs.reverse f) n b c := fun g σ H D hA hm =>
  x_drop <| x_bm0 <| ev_own hg g σ [] H _ hA fun x H1 ⟨S, h1⟩ => ⟨h1.tyL List.mem_cons_self (.als hg), by
    obtain ⟨a', vs, rfl, h2, h3⟩ := h1.isO List.mem_cons_self (.als hg)
    have d : Hds K S (xs.reverse.map e) vs.reverse := by
      rw [List.map_reverse]
      exact h3.rev
    obtain ⟨a2, o, e2, _, _, e4⟩ := h1.wr (v := .ref a') List.mem_cons_self hg (c' := .lst (xs.reverse.map e)) (o' := .lst vs.reverse) ⟨_, rfl, d⟩
    cases e2
    exact ⟨a', vs, rfl, rfl, h2, h _ g σ _ D ⟨S, e4.pop⟩ hm⟩⟩
/-- xs[j] = x: the value below the alias, the place on top -/
theorem f_set {g : Gh} {H : Hp} {σ : St} {τ : List (V × Tm)} {e : α → VP} {xs : List α} {j : Int} {a : α} {x y z : V} {oa : Option Addr} {Q : Hp → Prop} {E : Er → Prop} (hg : Γ[i]? = some (some (.own oa (.lst (xs.map e))))) (hA : At K g Γ σ ((y, .dat (eI j)) :: (x, .als i) :: (z, .dat (e a)) :: τ) H)
    (hm : OutR (setR xs j a) (fun ys => ∀ H', At K g (Γ.set i (some (.own oa (.lst (ys.map e))))) σ τ H' → Q H') E) : rSetL x y z H Q := by
  obtain ⟨S, h⟩ := hA
  unfold setR at hm
  cases e0 : ixN xs.length j with
  | none => rw [e0] at hm; exact hm.elim
  | some k =>
    rw [e0] at hm
    obtain ⟨a', vs, rfl, h2, h3⟩ := h.isO (List.mem_cons_of_mem _ List.mem_cons_self) (.als hg)
    have d : Hds K S ((xs.set k a).map e) (vs.set k z) := by
      rw [List.map_set]
      exact h3.set h.pop.pop.top k
    obtain ⟨a2, o, e2, _, _, e4⟩ := h.wr (v := .ref a') (List.mem_cons_of_mem _ List.mem_cons_self) hg (c' := .lst ((xs.set k a).map e)) (o' := .lst (vs.set k z)) ⟨_, rfl, d⟩
    cases e2
    refine ⟨a', vs, j, k, rfl, h.top.i, h2, ?_, hm _ ⟨S, e4.pop.pop.pop⟩⟩
    rw [h3.len, List.length_map]
    exact e0
/-- xs[j] = e with plain parts -/
theorem bj_set {f : List β → O ρ lam α} {e : β → VP} {xs : List β} {a : β} {j : Int} {oa : Option Addr} (hg : Γ[i]? = some (some (.own oa (.lst (xs.map e))))) (he : EV K Γ te (.dat (e a))) (hj : EV K Γ tb (.dat (eI j)))
    (h : ∀ ys, BJ K X (Γ.set i (some (.own oa (.lst (ys.map e))))) u (f ys) n b c) : BJ K X Γ (tSeq (tAsg te (gSub (tVar i) tb rSetL)) u) (bindR (setR xs j a) f) n b c := fun g σ H D hA hm =>
  he g σ [] H _ hA fun z H1 h1 => ev_own hg g σ _ H1 _ h1 fun x H2 h2 => hj g σ _ H2 _ h2 fun y H3 h3 =>
    f_set hg h3 (hm.bindR.imp (fun ys q H4 h4 => h ys g σ H4 D h4 q) fun _ q => q)

end

/-! ### targets -/
def setS : St → List Nat → List V → St
  | σ, [], _ => σ
  | σ, _ :: _, [] => σ
  | σ, j :: js, v :: vs => setS (σ.set j (some v)) js vs
def setG : List (Option Tm) → List Nat → List VP → List (Option Tm)
  | G, [], _ => G
  | G, _ :: _, [] => G
  | G, j :: js, p :: ps => setG (G.set j (some (.dat p))) js ps
theorem setS_app : ∀ {js ks : List Nat} {vs ws : List V} {σ : St}, vs.length = js.length → setS σ (js ++ ks) (vs ++ ws) = setS (setS σ js vs) ks ws
  | [], _, [], _, _, _ => rfl
  | [], _, _ :: _, _, _, h => by simp at h
  | _ :: _, _, [], _, _, h => by simp at h
  | j :: js, ks, v :: vs, ws, σ, h => setS_app (js := js) (vs := vs) (σ := σ.set j (some v)) (by simpa using h)
theorem setG_app : ∀ {js ks : List Nat} {ps qs : List VP} {G : List (Option Tm)}, ps.length = js.length → setG G (js ++ ks) (ps ++ qs) = setG (setG G js ps) ks qs
  | [], _, [], _, _, _ => rfl
  | [], _, _ :: _, _, _, h => by simp at h
  | _ :: _, _, [], _, _, h => by simp at h
  | j :: js, ks, v :: vs, ws, G, h => setG_app (js := js) (ps := vs) (G := G.set j (some (.dat v))) (by simpa using h)
theorem setG_len : ∀ {js : List Nat} {ps : List VP} {G : List (Option Tm)}, (setG G js ps).length = G.length
  | [], _, _ => rfl
  | _ :: _, [], _ => rfl
  | j :: js, p :: ps, G => by
    show (setG (G.set j (some (.dat p))) js ps).length = _
    rw [setG_len, List.length_set]
/-- a target takes the value on top: the slots js take what the ps tell -/
def TJ (K : PySem.W.Frag) (tg : TG) (p : VP) (js : List Nat) (ps : List VP) : Prop := ps.length = js.length ∧ ∀ g Γ σ τ H x (Q : St → Hp → Prop), (∀ j ∈ js, j < Γ.length) → (∀ y ∈ τ, ∀ k, y.2 = Tm.als k → k ∉ js) → At K g Γ σ ((x, .dat p) :: τ) H →
  (∀ vs H', vs.length = js.length → At K g (setG Γ js ps) (setS σ js vs) τ H' → Q (setS σ js vs) H') → tg x σ H Q
def TJs (K : PySem.W.Frag) (tg : TGs) (qs : List VP) (js : List Nat) (ps : List VP) : Prop := ps.length = js.length ∧ ∀ g Γ σ τ H xs (Q : St → Hp → Prop), (∀ j ∈ js, j < Γ.length) → (∀ y ∈ τ, ∀ k, y.2 = Tm.als k → k ∉ js) → xs.length = qs.length → At K g Γ σ (xs.zip (qs.map Tm.dat) ++ τ) H →
  (∀ vs H', vs.length = js.length → At K g (setG Γ js ps) (setS σ js vs) τ H' → Q (setS σ js vs) H') → tg xs σ H Q
section
variable {K : PySem.W.Frag} {tg : TG} {tgs : TGs} {p : VP} {ps qs rs : List VP} {js ks : List Nat} {i : Nat}
theorem tj_name : TJ K (gName i) p [i] [p] := ⟨rfl, fun g Γ σ τ H x Q hi hτ ⟨S, hA⟩ k =>
  k [x] H rfl ⟨S, hA.set (hi i List.mem_cons_self) (fun j z => by cases z) fun y hy k e => (fun z => hτ y hy k e (by rw [z]; exact List.mem_cons_self))⟩⟩
theorem tjs_nil : TJs K gNil [] [] [] := ⟨rfl, fun g Γ σ τ H xs Q hi hτ hl hA k => by
  cases xs with
  | nil => exact ⟨rfl, k [] H rfl hA⟩
  | cons _ _ => simp at hl⟩
theorem tjs_cons (h1 : TJ K tg p js ps) (h2 : TJs K tgs qs ks rs) : TJs K (gCons tg tgs) (p :: qs) (js ++ ks) (ps ++ rs) := ⟨by rw [List.length_append, List.length_append, h1.1, h2.1], fun g Γ σ τ H xs Q hi hτ hl hA k => by
  cases xs with
  | nil => simp at hl
  | cons x xs =>
    refine ⟨x, xs, rfl, h1.2 g Γ σ (xs.zip (qs.map Tm.dat) ++ τ) H x _ (fun j hj => hi j (List.mem_append_left _ hj)) (fun y hy k e => ?_) hA fun vs H1 e1 hA1 => ?_⟩
    · rcases List.mem_append.mp hy with hy | hy
      · obtain ⟨q, _, e2⟩ := List.mem_map.mp (List.of_mem_zip (show (y.1, y.2) ∈ _ from hy)).2
        rw [e] at e2; cases e2
      · exact fun z => hτ y hy k e (List.mem_append_left _ z)
    · refine h2.2 g _ _ τ H1 xs _ (fun j hj => by rw [setG_len]; exact hi j (List.mem_append_right _ hj)) (fun y hy k e z => hτ y hy k e (List.mem_append_right _ z)) (by simpa using hl) hA1 fun ws H2 e2 hA2 => ?_
      have q := k (vs ++ ws) H2 (by rw [List.length_append, List.length_append, e1, e2])
      rw [setS_app e1, setG_app h1.1] at q
      exact q hA2⟩
theorem AtS.pushes {g : Gh} {S H : Hp} {Γ : List (Option Tm)} {σ : St} {τ : List (V × Tm)} : ∀ {qs : List VP} {xs : List V}, Hds K S qs xs → AtS K g S Γ σ τ H → AtS K g S Γ σ (xs.zip (qs.map Tm.dat) ++ τ) H
  | _, _, .nil, h => h
  | _, _, .cons r t, h => (AtS.pushes t h).push r
theorem tj_tup {n : Nat} (h : TJs K tgs qs js ps) (hn : qs.length = n) : TJ K (gTup K n tgs) (rT qs) js ps := ⟨h.1, fun g Γ σ τ H x Q hi hτ ⟨S, hA⟩ k => by
  obtain ⟨a, vs, rfl, h2, h3⟩ := hA.isT List.mem_cons_self
  exact ⟨a, vs, rfl, h2, by rw [h3.len, hn], h.2 g Γ σ τ H vs Q hi hτ h3.len ⟨S, hA.pop.pushes h3⟩ k⟩⟩
end
end Gv

set_option Elab.async false
set_option linter.all false
set_option maxRecDepth 100000
set_option maxHeartbeats 1000000
/-! Gv: loops, comprehensions, defs -/
namespace Gv
open PySem L2

/-! ### what a loop walks -/
/-- wi walks the items that m tells -/
def ITM (K : PySem.W.Frag) (Γ : List (Option Tm)) (wi : TI) {β : Type} (m : R (List β)) (e : β → VP) : Prop :=
  ∀ (g : Gh) (σ : St) (τ : List (V × Tm)) (H : Hp) (Rk : It → Hp → Prop) (E : Er → Prop), At K g Γ σ τ H →
    OutR m (fun xs => ∀ (J : It) (Gd : Hp → Prop) (Y : Nat → Hp → V → Hp → Prop) (S1 H' : Hp), Walk J xs.length Gd Y → Same g.S0 S1 → (∀ b, g.F b ≠ none → g.S0 b = none → S1 b = none) → At K ⟨S1, g.F⟩ Γ σ τ H' →
      (∀ S2 H2, Base ⟨S1, g.F⟩ S2 H2 → Gd H2) →
      (∀ (i : Nat) (b : β) (x : V) (H1 H2 : Hp) (Γ' : List (Option Tm)) (σ' : St) (τ' : List (V × Tm)), xs[i]? = some b → Y i H1 x H2 → At K ⟨S1, g.F⟩ Γ' σ' τ' H1 → At K ⟨S1, g.F⟩ Γ' σ' ((x, .dat (e b)) :: τ') H2) → Rk J H') E → wi σ H Rk
section
variable {K : PySem.W.Frag} {Γ : List (Option Tm)} {wi : TI} {te ta tb : TE} {β : Type} {e : β → VP}
theorem Base.reS {g : Gh} {S S2 H2 : Hp} (B : Base ⟨S, g.F⟩ S2 H2) : Same S H2 := fun b o h => B.sh b o (B.s0 b o h)
theorem it_list (xs : List β) (e : β → VP) (he : EV K Γ te (.dat (eL e xs))) : ITM K Γ (iList K te) (.nx xs) e := fun g σ τ H Rk E hA hm =>
  he g σ τ H _ hA fun v H' ⟨S, h⟩ => by
    obtain ⟨a, vs, rfl, h2, h3⟩ := Hd.l h.top
    have hl : vs.length = xs.length := by rw [h3.len, List.length_map]
    refine ⟨a, rfl, ⟨vs, h.base.sh.seq h2⟩, hm (Itl K a) (fun H => SqL K H a vs) (YAt vs) S H' (by rw [← hl]; exact walk_list) h.base.s0 h.base.fs ⟨S, h.pop.reS⟩ (fun S2 H2 B => B.reS.seq h2) fun i b x H1 H2 Γ' σ' τ' hb hy ⟨S2, hA2⟩ => ?_⟩
    obtain ⟨rfl, hx⟩ := hy
    obtain ⟨w, w1, w2⟩ := h3.get (show (xs.map e)[i]? = some (e b) by rw [List.getElem?_map, hb]; rfl)
    rw [hx] at w1
    cases w1
    exact ⟨S2, hA2.push (w2.mono hA2.base.s0)⟩
theorem it_tup (xs : List β) (e : β → VP) (he : EV K Γ te (.dat (eT e xs))) : ITM K Γ (iTup K te) (.nx xs) e := fun g σ τ H Rk E hA hm =>
  he g σ τ H _ hA fun v H' ⟨S, h⟩ => by
    obtain ⟨a, vs, rfl, h2, h3⟩ := Hd.t h.top
    have hl : vs.length = xs.length := by rw [h3.len, List.length_map]
    refine ⟨a, rfl, ⟨vs, same_t h.base.sh h2⟩, hm (Itt K a) (fun H => SqT K H a vs) (YAt vs) S H' (by rw [← hl]; exact walk_tup) h.base.s0 h.base.fs ⟨S, h.pop.reS⟩ (fun S2 H2 B => same_t B.reS h2) fun i b x H1 H2 Γ' σ' τ' hb hy ⟨S2, hA2⟩ => ?_⟩
    obtain ⟨rfl, hx⟩ := hy
    obtain ⟨w, w1, w2⟩ := h3.get (show (xs.map e)[i]? = some (e b) by rw [List.getElem?_map, hb]; rfl)
    rw [hx] at w1
    cases w1
    exact ⟨S2, hA2.push (w2.mono hA2.base.s0)⟩
/-- an own list: it stands still while it is walked -/
theorem At.frzS {g : Gh} {σ : St} {H : Hp} {i : Nat} {oa : Option Addr} {ps : List VP} (h : At K g Γ σ [] H) (hg : Γ[i]? = some (some (.own oa (.lst ps)))) : At K g (Γ.set i (some (.dat (rL ps)))) σ [] H := by
  obtain ⟨S, h⟩ := h
  obtain ⟨a, e1, ow, h0⟩ := h.at0.take hg
  have h1 : At K g (Γ.set i none) σ [(.ref a, .own oa (.lst ps))] H := by
    refine ⟨S, h0.base, h0.len, h0.all, h0.ns, fun x hx k e => ?_, h0.nd⟩
    have : x = (V.ref a, Tm.own oa (.lst ps)) := by simpa using hx
    subst this
    cases e
  obtain ⟨S2, h2⟩ := h1.frz
  have hi : i < Γ.length := (List.getElem?_eq_some_iff.mp hg).1
  have h3 := h2.at0.put (i := i) (by rw [List.length_set]; exact hi) e1 (fun j z => by cases z) (List.getElem?_set_self hi)
  rw [List.set_set] at h3
  exact ⟨S2, h3.base, h3.len, h3.all, h3.ns, (fun x hx => nomatch hx), h3.nd⟩
theorem bj_frz {ρ lam α : Type} {X : Fx ρ} {u : TS} {m : O ρ lam α} {n : α → List (Option Tm)} {b c : lam → List (Option Tm)} {i : Nat} {oa : Option Addr} {ps : List VP} (hg : Γ[i]? = some (some (.own oa (.lst ps)))) (h : BJ K X (Γ.set i (some (.dat (rL ps)))) u m n b c) : BJ K X Γ u m n b c :=
  fun g σ H D hA hm => h g σ H D (hA.frzS hg) hm
/-- the place of an own list gets a name -/
theorem bj_pin {ρ lam α : Type} {X : Fx ρ} {u : TS} {m : O ρ lam α} {n : α → List (Option Tm)} {b c : lam → List (Option Tm)} {i : Nat} {oa : Option Addr} {cl : Cell} (hg : Γ[i]? = some (some (.own oa cl))) (h : ∀ a, BJ K X (Γ.set i (some (.own (some a) cl))) u m n b c) : BJ K X Γ u m n b c :=
  fun g σ H D ⟨S, hA⟩ hm => by
    obtain ⟨a, e1, ow, h0⟩ := hA.at0.take hg
    have hi : i < Γ.length := (List.getElem?_eq_some_iff.mp hg).1
    have h1 : At0 K g S (Γ.set i none) σ [(.ref a, .own (some a) cl)] H := ⟨h0.base, h0.len, fun x hx => by
      rcases List.mem_append.mp hx with hx | hx
      · exact h0.all x (List.mem_append_left _ hx)
      · have : x = (V.ref a, Tm.own (some a) cl) := by simpa using hx
        subst this
        obtain ⟨a', o, e, _, k⟩ := ow
        cases e
        exact ⟨a, o, rfl, fun b z => (Option.some.inj z).symm, k⟩, h0.ns, by
      have := h0.nd
      rw [addrs_append] at this ⊢
      exact this⟩
    have h3 := h1.put (i := i) (by rw [List.length_set]; exact hi) e1 (fun j z => by cases z) (List.getElem?_set_self hi)
    rw [List.set_set] at h3
    exact h a g σ H D ⟨S, h3.base, h3.len, h3.all, h3.ns, fun x hx => (by cases hx), h3.nd⟩ hm
/-- range(a, b) as a list -/
def rangeL (a b : Int) : List Int := (List.range (b - a).toNat).map fun i => a + (i : Nat)
theorem rangeL_len (a b : Int) : (rangeL a b).length = (b - a).toNat := by unfold rangeL; rw [List.length_map, List.length_range]
theorem rangeL_get {a b : Int} {i : Nat} {x : Int} (h : (rangeL a b)[i]? = some x) : x = a + (i : Nat) := by
  unfold rangeL at h
  rw [List.getElem?_map] at h
  cases e : (List.range (b - a).toNat)[i]? with
  | none => rw [e] at h; cases h
  | some j =>
    rw [e] at h
    obtain ⟨hj, ej⟩ := List.getElem?_eq_some_iff.mp e
    rw [List.getElem_range] at ej
    subst ej
    exact (Option.some.inj h).symm
@[irreducible] def rngR (a b : Int) : R (List Int) := gd (decide (-1000000000 ≤ a) && decide (a ≤ 1000000000) && decide (-1000000000 ≤ b) && decide (b ≤ 1000000000)) (rangeL a b)
theorem rngR_eq (a b : Int) : rngR a b = gd (decide (-1000000000 ≤ a) && decide (a ≤ 1000000000) && decide (-1000000000 ≤ b) && decide (b ≤ 1000000000)) (rangeL a b) := by unfold rngR; rfl
theorem rngR_gd {a b : Int} {N : List Int → Prop} {E : Er → Prop} (h : OutR (rngR a b) N E) : (decide (-1000000000 ≤ a) && decide (a ≤ 1000000000) && decide (-1000000000 ≤ b) && decide (b ≤ 1000000000)) = true ∧ N (rangeL a b) := by
  rw [rngR_eq] at h
  exact h.gd
theorem it_rng1 {b : Int} (he : EV K Γ tb (.dat (eI b))) : ITM K Γ (iRng1 (tCons tb tNil)) (rngR 0 b) eI := fun g σ τ H Rk E hA hm =>
  he g σ τ H _ hA fun v H' ⟨S, h⟩ => by
    obtain ⟨hc, k⟩ := rngR_gd hm
    simp only [Bool.and_eq_true, decide_eq_true_eq] at hc
    refine ⟨b, by rw [show v = V.int b from Hd.i h.top], by omega, by omega, k (Itr 0 b.toNat) (fun _ => True) (YFn fun i => .int (0 + i)) S H' (by rw [rangeL_len, Int.sub_zero]; exact walk_range) h.base.s0 h.base.fs ⟨S, h.pop.reS⟩ (fun _ _ _ => True.intro) fun i x v H1 H2 Γ' σ' τ' hx hy hA2 => ?_⟩
    obtain ⟨rfl, rfl⟩ := hy
    exact hA2.scal fun _ => by rw [rangeL_get hx]; rfl
theorem it_rng2 {a b : Int} (h1 : EV K Γ ta (.dat (eI a))) (h2 : EV K Γ tb (.dat (eI b))) : ITM K Γ (iRng2 (tCons ta (tCons tb tNil))) (rngR a b) eI := fun g σ τ H Rk E hA hm =>
  h1 g σ τ H _ hA fun v H1 hA1 => h2 g σ _ H1 _ hA1 fun w H' ⟨S, h⟩ => by
    obtain ⟨hc, k⟩ := rngR_gd hm
    simp only [Bool.and_eq_true, decide_eq_true_eq] at hc
    refine ⟨a, b, by rw [show w = V.int b from Hd.i h.top, show v = V.int a from Hd.i h.pop.top], by omega, k (Itr a (b - a).toNat) (fun _ => True) (YFn fun i => .int (a + i)) S H' (by rw [rangeL_len]; exact walk_range) h.base.s0 h.base.fs ⟨S, h.pop.pop.reS⟩ (fun _ _ _ => True.intro) fun i x v H1 H2 Γ' σ' τ' hx hy hA2 => ?_⟩
    obtain ⟨rfl, rfl⟩ := hy
    exact hA2.scal fun _ => by rw [rangeL_get hx]; rfl
end

/-! ### for -/
section
variable {K : PySem.W.Frag} {ρ lam α β sT : Type} {X : Fx ρ} {Γ : List (Option Tm)} {n : α → List (Option Tm)} {b c : lam → List (Option Tm)} {t u tb : TS} {te : TE} {tc : TT} {wi : TI} {tg : TG} {e : β → VP} {js : List Nat} {ps : β → List VP}
theorem forO_out {f : sT → β → O ρ sT sT} {x : β} {xs : List β} {s0 : sT} {N : sT → Prop} {T : ρ → Prop} {B C : lam → Prop} {E : Er → Prop} (h : Out (forO f (x :: xs) s0 : O ρ lam sT) N T B C E) :
    Out (f s0 x) (fun s' => Out (forO f xs s' : O ρ lam sT) N T B C E) T (fun s' => N s') (fun s' => Out (forO f xs s' : O ρ lam sT) N T B C E) E := by
  unfold forO at h
  cases e : f s0 x <;> rw [e] at h <;> exact h
theorem ErP.unS {EC : Str → Addr} {g : Gh} {S1 : Hp} {Gw : List (Option Tm)} {x : Er} {EW : St → XK} (h : ErP K EC g Gw x EW) (e : Same g.S0 S1) (f : ∀ b, g.F b ≠ none → g.S0 b = none → S1 b = none) : ErP K EC ⟨S1, g.F⟩ Gw x EW :=
  fun σ' H' S' d hA => h σ' H' S' d (hA.unS e f)
theorem At.unS {g : Gh} {S1 H : Hp} {σ : St} {τ : List (V × Tm)} (h : At K ⟨S1, g.F⟩ Γ σ τ H) (e : Same g.S0 S1) (f : ∀ b, g.F b ≠ none → g.S0 b = none → S1 b = none) : At K g Γ σ τ H := by
  obtain ⟨S, h⟩ := h
  exact ⟨S, h.unS e f⟩
theorem bj_for {m : R (List β)} {f : sT → β → O ρ sT sT} {s0 : sT} {k : sT → O ρ lam α} (Gl : sT → List (Option Tm)) (hi : ITM K Γ wi m e) (ht : ∀ b, TJ K tg (e b) js (ps b)) (hj : ∀ s, ∀ j ∈ js, j < (Gl s).length) (h0 : Le (Gl s0) Γ)
    (hb : ∀ s b, BJ K X (setG (Gl s) js (ps b)) tb (f s b) Gl Gl Gl) (hr : ∀ s, BJ K X (Gl s) u (k s) n b c) : BJ K X Γ (tSeq (tFor wi tg tb) u) (bindR m fun xs => (forO f xs s0).bind k) n b c := fun g σ H D hA hm => by
  show wi σ H _
  refine hi g σ [] H _ (ErW K g X) hA (hm.bindR.imp (fun xs q J Gd Y S1 H' w es ef hA' hG hY => ?_) fun _ q => q)
  have q2 := q.bind
  refine for_it w (fun i σ H => ∃ s, At K ⟨S1, g.F⟩ (Gl s) σ [] H ∧ Out (forO f (xs.drop i) s : O ρ lam sT) (fun s' => ∀ σ' H', At K ⟨S1, g.F⟩ (Gl s') σ' [] H' → u D σ' H') (RtW K ⟨S1, g.F⟩ X D.rt) (fun l => NxW K g b D.bk l) (fun l => NxW K g c D.ct l) (ErW K ⟨S1, g.F⟩ X))
    ⟨s0, hA'.weak h0, ?_⟩ (fun i σ H _ ⟨s, ⟨S2, h2⟩, _⟩ => hG S2 H h2.base) ?_ ?_
  · rw [List.drop_zero]
    refine q2.imp (fun s' q3 σ' H' h' => hr s' g σ' H' D (h'.unS es ef) q3) (fun r q3 v H' σ' h' => q3 v H' σ' (h'.unS es ef)) (fun _ q3 => q3) (fun _ q3 => q3) (fun x q3 => q3.unS es ef)
  · rintro i x σ H H' hi ⟨s, hA2, q3⟩ hy
    have hx : xs[i]? = some xs[i] := List.getElem?_eq_getElem hi
    rw [List.drop_eq_getElem_cons hi] at q3
    have q4 := forO_out q3
    refine (ht xs[i]).2 ⟨S1, g.F⟩ (Gl s) σ [] H' x _ (hj s) (fun y hy => (by cases hy)) (hY i _ x H H' _ _ _ hx hy hA2) fun vs H2 _ hA3 => ?_
    exact hb s xs[i] ⟨S1, g.F⟩ _ H2 _ hA3 (q4.imp (fun s' q5 σ' H' h' => ⟨s', h', q5⟩) (fun _ q5 => q5) (fun s' q5 σ' H' h' => q5 σ' H' h') (fun s' q5 σ' H' h' => ⟨s', h', q5⟩) fun _ q5 => q5)
  · rintro σ H ⟨s, hA2, q3⟩
    rw [List.drop_length] at q3
    exact q3 σ H hA2
/-! ### while -/
theorem whileO_out {cn : sT → R (sT × Bool)} {f : sT → O ρ sT sT} {fu : Nat} {s0 : sT} {N : sT → Prop} {T : ρ → Prop} {B C : lam → Prop} {E : Er → Prop} (h : Out (whileO cn f (fu + 1) s0 : O ρ lam sT) N T B C E) :
    OutR (cn s0) (fun sb => (sb.2 = true → Out (f sb.1) (fun s' => Out (whileO cn f fu s' : O ρ lam sT) N T B C E) T (fun s' => N s') (fun s' => Out (whileO cn f fu s' : O ρ lam sT) N T B C E) E) ∧ (sb.2 = false → N sb.1)) E := by
  unfold whileO at h
  refine h.bindR.imp (fun sb q => ⟨fun hb => ?_, fun hb => ?_⟩) fun _ q => q
  · rw [if_pos hb] at q
    cases e : f sb.1 <;> rw [e] at q <;> exact q
  · rw [if_neg (by rw [hb]; exact Bool.false_ne_true)] at q
    exact q
theorem bj_while {cn : sT → R (sT × Bool)} {f : sT → O ρ sT sT} {fu : Nat} {s0 : sT} {k : sT → O ρ lam α} (Gl : sT → List (Option Tm)) (h0 : Le (Gl s0) Γ)
    (hc : ∀ s g σ H (Q : Bool → Hp → Prop), At K g (Gl s) σ [] H → OutR (cn s) (fun sb => ∀ H', At K g (Gl sb.1) σ [] H' → Q sb.2 H') (ErW K g X) → tc σ H Q)
    (hb : ∀ s, BJ K X (Gl s) tb (f s) Gl Gl Gl) (hr : ∀ s, BJ K X (Gl s) u (k s) n b c) : BJ K X Γ (tSeq (tWhile tc tb) u) ((whileO cn f fu s0).bind k) n b c := fun g σ H D hA hm => by
  have q2 := hm.bind
  show ∃ W : Nat → St → Hp → Prop, _
  refine ⟨fun m σ H => ∃ s, At K g (Gl s) σ [] H ∧ Out (whileO cn f m s : O ρ lam sT) (fun s' => ∀ σ' H', At K g (Gl s') σ' [] H' → u D σ' H') (RtW K g X D.rt) (fun l => NxW K g b D.bk l) (fun l => NxW K g c D.ct l) (ErW K g X),
    ⟨fu, s0, hA.weak h0, q2.imp (fun s' q3 σ' H' h' => hr s' g σ' H' D h' q3) (fun _ q => q) (fun _ q => q) (fun _ q => q) fun _ q => q⟩, ?_⟩
  rintro m σ H ⟨s, hA2, q3⟩
  cases m with
  | zero => exact q3.elim
  | succ m =>
    refine hc s g σ H _ hA2 ((whileO_out q3).imp (fun sb q4 H' h' => ?_) fun _ q => q)
    cases e : sb.2 with
    | true =>
      rw [if_pos rfl]
      refine ⟨fun σ' H' => ∃ s', At K g (Gl s') σ' [] H' ∧ Out (whileO cn f m s' : O ρ lam sT) (fun s' => ∀ σ' H', At K g (Gl s') σ' [] H' → u D σ' H') (RtW K g X D.rt) (fun l => NxW K g b D.bk l) (fun l => NxW K g c D.ct l) (ErW K g X), fun σ' H' z => ⟨m, Nat.lt_succ_self m, z⟩, ?_⟩
      exact hb sb.1 g σ H' _ h' ((q4.1 e).imp (fun s' q5 σ' H' h' => ⟨s', h', q5⟩) (fun _ q5 => q5) (fun s' q5 σ' H' h' => q5 σ' H' h') (fun s' q5 σ' H' h' => ⟨s', h', q5⟩) fun _ q5 => q5)
    | false =>
      rw [if_neg Bool.false_ne_true]
      exact q4.2 e σ H' h'
/-- a test that is plain -/
theorem cj_pure {Gl : sT → List (Option Tm)} {cc : sT → Bool} (h : ∀ s, EVB K (Gl s) tc (cc s)) : ∀ s g σ H (Q : Bool → Hp → Prop), At K g (Gl s) σ [] H → OutR (.nx (s, cc s) : R (sT × Bool)) (fun sb => ∀ H', At K g (Gl sb.1) σ [] H' → Q sb.2 H') (ErW K g X) → tc σ H Q :=
  fun s g σ H Q hA hm => h s g σ [] H Q hA fun H' h' => hm H' h'
end

/-! ### comprehensions -/
section
variable {K : PySem.W.Frag} {β γ sT : Type} {wi : TI} {tg : TG} {tt : TT} {te : TE} {e : β → VP} {js vs : List Nat} {ps : β → List VP} {enc : γ → VP}
/-- what an item gives -/
def LJ (K : PySem.W.Frag) (Gl : sT → List (Option Tm)) (js : List Nat) (ps : β → List VP) (enc : γ → VP) (tt : TT) (te : TE) (f : sT → β → R (sT × Option γ)) : Prop :=
  ∀ s b g σ τ H (Q : Option V → Hp → Prop), At K g (setG (Gl s) js (ps b)) σ τ H →
    OutR (f s b) (fun r => match r.2 with
      | none => ∀ H', At K g (setG (Gl r.1) js (ps b)) σ τ H' → Q none H'
      | some y => ∀ v H', At K g (setG (Gl r.1) js (ps b)) σ ((v, .dat (enc y)) :: τ) H' → Q (some v) H') (fun _ => False) →
    tt σ H fun b H3 => if b = true then te σ H3 fun y H4 => Q (some y) H4 else Q none H3
theorem lj_pure {Gl : sT → List (Option Tm)} {h : sT → β → γ} (he : ∀ s b, EV K (setG (Gl s) js (ps b)) te (.dat (enc (h s b)))) : LJ K Gl js ps enc tYes te (fun s b => .nx (s, some (h s b))) := fun s b g σ τ H Q hA hm => by
  show (if true = true then te σ H (fun y H4 => Q (some y) H4) else Q none H)
  rw [if_pos rfl]
  exact he s b g σ τ H _ hA fun v H' h' => hm v H' h'
theorem lj_pureIf {Gl : sT → List (Option Tm)} {cc : sT → β → Bool} {h : sT → β → γ} (hc : ∀ s b, EVB K (setG (Gl s) js (ps b)) tt (cc s b)) (he : ∀ s b, EV K (setG (Gl s) js (ps b)) te (.dat (enc (h s b)))) : LJ K Gl js ps enc tt te (fun s b => .nx (s, if cc s b then some (h s b) else none)) := fun s b g σ τ H Q hA hm => by
  refine hc s b g σ τ H _ hA fun H' h' => ?_
  dsimp only at hm
  cases e : cc s b with
  | true =>
    rw [if_pos rfl]
    rw [e] at hm
    exact he s b g σ τ H' _ h' fun v H2 h2 => hm v H2 h2
  | false =>
    rw [if_neg Bool.false_ne_true]
    rw [e] at hm
    exact hm H' h'
theorem wipe_get {σ : St} : ∀ {vs : List Nat} {i : Nat}, i ∉ vs → (wipe σ vs)[i]? = σ[i]?
  | [], _, _ => rfl
  | v :: vs, i, h => by
    unfold wipe
    rw [List.getElem?_set_ne (by intro z; exact h (by simp [z]))]
    exact wipe_get fun z => h (List.mem_cons_of_mem _ z)
theorem wipe_hit {σ : St} : ∀ {vs : List Nat} {i : Nat}, i ∈ vs → (wipe σ vs)[i]? = if i < σ.length then some none else none
  | v :: vs, i, h => by
    unfold wipe
    by_cases hv : v = i
    · subst hv
      by_cases hl : v < σ.length
      · rw [List.getElem?_set_self (by rw [wipe_length]; exact hl), if_pos hl]
      · rw [if_neg hl, List.getElem?_eq_none (by rw [List.length_set, wipe_length]; omega)]
    · rw [List.getElem?_set_ne hv]
      exact wipe_hit (by
        rcases List.mem_cons.mp h with h | h
        · exact absurd h.symm hv
        · exact h)
theorem setS_get : ∀ {js : List Nat} {ws : List V} {σ : St} {i : Nat}, i ∉ js → (setS σ js ws)[i]? = σ[i]?
  | [], _, _, _, _ => rfl
  | _ :: _, [], _, _, _ => rfl
  | j :: js, w :: ws, σ, i, h => by
    show (setS (σ.set j (some w)) js ws)[i]? = _
    rw [setS_get fun z => h (List.mem_cons_of_mem _ z), List.getElem?_set_ne (by intro z; exact h (by simp [z]))]
theorem setS_len : ∀ {js : List Nat} {ws : List V} {σ : St}, (setS σ js ws).length = σ.length
  | [], _, _ => rfl
  | _ :: _, [], _ => rfl
  | j :: js, w :: ws, σ => by
    show (setS (σ.set j (some w)) js ws).length = _
    rw [setS_len, List.length_set]
theorem wipe_set {σ : St} {js vs : List Nat} {ws : List V} (h : ∀ j ∈ js, j ∈ vs) : wipe (setS (wipe σ vs) js ws) vs = wipe σ vs := by
  apply List.ext_getElem?
  intro i
  by_cases hi : i ∈ vs
  · rw [wipe_hit hi, wipe_hit hi, setS_len, wipe_length]
  · rw [wipe_get hi, setS_get (fun z => hi (h i z)), wipe_get hi]
theorem setG_get : ∀ {js : List Nat} {qs : List VP} {G : List (Option Tm)} {i : Nat}, i ∉ js → (setG G js qs)[i]? = G[i]?
  | [], _, _, _, _ => rfl
  | _ :: _, [], _, _, _ => rfl
  | j :: js, w :: ws, σ, i, h => by
    show (setG (σ.set j (some (.dat w))) js ws)[i]? = _
    rw [setG_get fun z => h (List.mem_cons_of_mem _ z), List.getElem?_set_ne (by intro z; exact h (by simp [z]))]
theorem setG_comm {x : Option Tm} : ∀ {js : List Nat} {qs : List VP} {G : List (Option Tm)} {j : Nat}, j ∉ js → setG (G.set j x) js qs = (setG G js qs).set j x
  | [], _, _, _, _ => rfl
  | _ :: _, [], _, _, _ => rfl
  | i :: js, q :: qs, G, j, h => by
    show setG ((G.set j x).set i (some (.dat q))) js qs = (setG (G.set i (some (.dat q))) js qs).set j x
    rw [List.set_comm _ _ (by intro z; exact h (by simp [z])), setG_comm fun z => h (List.mem_cons_of_mem _ z)]
theorem forget {g : Gh} {S H : Hp} {σ : St} {τ : List (V × Tm)} : ∀ {js : List Nat} {qs : List VP} {G : List (Option Tm)}, js.Nodup → (∀ j ∈ js, G[j]? = some none) → AtS K g S (setG G js qs) σ τ H → AtS K g S G σ τ H
  | [], _, _, _, _, h => h
  | _ :: _, [], _, _, _, h => h
  | j :: js, q :: qs, G, nd, hn, h => by
    obtain ⟨n1, n2⟩ := List.nodup_cons.mp nd
    have h' : AtS K g S (setG (G.set j (some (.dat q))) js qs) σ τ H := h
    have hj := hn j List.mem_cons_self
    have hl := (List.getElem?_eq_some_iff.mp hj).1
    have h2 : AtS K g S ((setG (G.set j (some (.dat q))) js qs).set j none) σ τ H := h'.drop1 (p := q) (by rw [setG_get n1, List.getElem?_set_self hl])
    rw [setG_comm n1, List.set_set] at h2
    have e : (setG G js qs).set j none = setG G js qs := by
      apply List.ext_getElem?
      intro i
      by_cases hi : j = i
      · subst hi; rw [List.getElem?_set_self (by rw [setG_len]; exact hl), setG_get n1, hj]
      · rw [List.getElem?_set_ne hi]
    rw [e] at h2
    exact forget n2 (fun i hi => hn i (List.mem_cons_of_mem _ hi)) h2
theorem lcR_out {f : sT → β → R (sT × Option γ)} {x : β} {xs : List β} {s0 : sT} {acc : List γ} {N : sT × List γ → Prop} {E : Er → Prop} (h : OutR (lcR f (x :: xs) s0 acc) N E) :
    OutR (f s0 x) (fun r => match r.2 with
      | none => OutR (lcR f xs r.1 acc) N E
      | some y => acc.length < 1000000 ∧ OutR (lcR f xs r.1 (acc ++ [y])) N E) (fun _ => False) := by
  unfold lcR at h
  cases e : f s0 x with
  | nx r =>
    rw [e] at h
    obtain ⟨s1, o⟩ := r
    cases o with
    | none => exact h
    | some y =>
      dsimp only at h
      by_cases hl : acc.length < 1000000
      · rw [if_pos hl] at h; exact ⟨hl, h⟩
      · rw [if_neg hl] at h; exact h.elim
  | rt r => exact r.elim
  | bk r => exact r.elim
  | ct r => exact r.elim
  | er x => rw [e] at h; exact h.elim
  | stuck => rw [e] at h; exact h.elim
theorem AtS.oaNone {g : Gh} {S H : Hp} {Γ : List (Option Tm)} {σ : St} {τ : List (V × Tm)} {v : V} {oa : Option Addr} {c : Cell} (h : AtS K g S Γ σ ((v, .own oa c) :: τ) H) : AtS K g S Γ σ ((v, .own none c) :: τ) H := by
  refine ⟨h.base, h.len, fun x hx => ?_, h.ns, fun x hx k e => ?_, ?_⟩
  · rcases List.mem_append.mp hx with hx | hx
    · exact h.all x (List.mem_append_left _ hx)
    · rcases List.mem_cons.mp hx with rfl | hx
      · obtain ⟨a, o, e, _, k⟩ := h.top
        exact ⟨a, o, e, fun b z => (nomatch z), k⟩
      · exact h.all x (List.mem_append_right _ (List.mem_cons_of_mem _ hx))
  · rcases List.mem_cons.mp hx with rfl | hx
    · cases e
    · exact h.al x (List.mem_cons_of_mem _ hx) k e
  · have := h.nd
    rw [addrs_append] at this ⊢
    cases v <;> exact this
/-- [.. for .. in .. if ..] -/
theorem f_lc {m : R (List β)} {f : sT → β → R (sT × Option γ)} (Gl : sT → List (Option Tm)) (s0 : sT) {g : Gh} {σ : St} {τ : List (V × Tm)} {H : Hp} {Q : VK} {E : Er → Prop} (hi : ITM K (Gl s0) wi m e) (ht : ∀ b, TJ K tg (e b) js (ps b)) (nd : js.Nodup)
    (hn : ∀ s, ∀ j ∈ js, (Gl s)[j]? = some none) (hv : ∀ s, ∀ j ∈ vs, (Gl s)[j]? = some none) (hsub : ∀ j ∈ js, j ∈ vs) (hl : LJ K Gl js ps enc tt te f) (hA : At K g (Gl s0) σ τ H)
    (hm : OutR (bindR m fun xs => lcR f xs s0 []) (fun r => ∀ v H', At K g (Gl r.1) σ ((v, oL enc r.2) :: τ) H' → Q v H') E) : tLc wi tg tt te vs σ H Q := by
  have hm2 : OutR m (fun xs => OutR (lcR f xs s0 []) (fun r => ∀ v H', At K g (Gl r.1) σ ((v, oL enc r.2) :: τ) H' → Q v H') E) E := by
    cases m <;> first | exact hm | (rename_i z; exact z.elim)
  show wi σ H _
  refine hi g σ τ H _ E hA (hm2.imp (fun xs q J Gd Y S1 H' w es ef hA' hG hY D hD => ?_) fun _ q => q)
  refine lc_it w (fun i H => ∃ s acc, At K ⟨S1, g.F⟩ (Gl s) σ ((.ref D, .own (some D) (.lst (acc.map enc))) :: τ) H ∧ OutR (lcR f (xs.drop i) s acc) (fun r => ∀ v H', At K g (Gl r.1) σ ((v, oL enc r.2) :: τ) H' → Q v H') E)
    ⟨s0, [], ?_, by rw [List.drop_zero]; exact q⟩ (fun i H _ ⟨s, acc, ⟨S2, h2⟩, _⟩ => hG S2 H h2.base) ?_ ?_
  · obtain ⟨S, h⟩ := hA'
    exact ⟨S, h.freshA (fun b z => (Option.some.inj z).symm) hD ⟨[], rfl, .nil⟩⟩
  · rintro i x H H' hi ⟨s, acc, hA2, q3⟩ hy
    have hx : xs[i]? = some xs[i] := List.getElem?_eq_getElem hi
    rw [List.drop_eq_getElem_cons hi] at q3
    have q4 := lcR_out q3
    have hA3 : At K ⟨S1, g.F⟩ (Gl s) (wipe σ vs) ((.ref D, .own (some D) (.lst (acc.map enc))) :: τ) H := by
      obtain ⟨S, h⟩ := hA2
      exact ⟨S, h.slots (fun j t ej => wipe_get fun z => by rw [hv s j z] at ej; cases ej) (by rw [wipe_length]; exact h.len)⟩
    have hal : ∀ y ∈ (V.ref D, Tm.own (some D) (.lst (acc.map enc))) :: τ, ∀ k, y.2 = Tm.als k → k ∉ js := fun y hy k ek hk => by
      obtain ⟨S, h⟩ := hA2
      obtain ⟨oa, c, q⟩ := h.al y hy k ek
      rw [hn s k hk] at q; cases q
    refine (ht xs[i]).2 ⟨S1, g.F⟩ (Gl s) (wipe σ vs) _ H' x _ (fun j hj => (List.getElem?_eq_some_iff.mp (hn s j hj)).1) hal (hY i _ x H H' _ _ _ hx hy hA3) fun ws H2 _ hA4 => ⟨wipe_set hsub, ?_⟩
    -- back to the slots of the def
    have back : ∀ {s' : sT} {τ' : List (V × Tm)} {H3 : Hp}, At K ⟨S1, g.F⟩ (setG (Gl s') js (ps xs[i])) (setS (wipe σ vs) js ws) τ' H3 → At K ⟨S1, g.F⟩ (Gl s') σ τ' H3 := fun {s' τ' H3} ⟨S, h⟩ => by
      have h5 := forget nd (hn s') h
      have hlen : (Gl s').length ≤ σ.length := by
        have := h5.len
        rw [setS_len, wipe_length] at this
        exact this
      exact ⟨S, h5.slots (fun j t ej => by
        have n1 : j ∉ js := fun z => by rw [hn s' j z] at ej; cases ej
        have n2 : j ∉ vs := fun z => by rw [hv s' j z] at ej; cases ej
        rw [setS_get n1, wipe_get n2]) hlen⟩
    have := hl s xs[i] ⟨S1, g.F⟩ (setS (wipe σ vs) js ws) _ H2 (fun o H4 => match o with
      | none => ∃ s acc, At K ⟨S1, g.F⟩ (Gl s) σ ((.ref D, .own (some D) (.lst (acc.map enc))) :: τ) H4 ∧ OutR (lcR f (xs.drop (i + 1)) s acc) (fun r => ∀ v H', At K g (Gl r.1) σ ((v, oL enc r.2) :: τ) H' → Q v H') E
      | some y => ∃ acc, H4 D = some (.lst acc) ∧ acc.length < sizeLine ∧ ∃ s acc', At K ⟨S1, g.F⟩ (Gl s) σ ((.ref D, .own (some D) (.lst (acc'.map enc))) :: τ) (upd H4 D (.lst (acc ++ [y]))) ∧ OutR (lcR f (xs.drop (i + 1)) s acc') (fun r => ∀ v H', At K g (Gl r.1) σ ((v, oL enc r.2) :: τ) H' → Q v H') E) hA4 (q4.imp (fun r q5 => ?_) fun _ q5 => q5)
    · exact this
    · obtain ⟨s1, o⟩ := r
      cases o with
      | none => exact fun H4 h4 => ⟨s1, acc, back h4, q5⟩
      | some y =>
        intro v H4 h4
        obtain ⟨q6, q7⟩ := q5
        obtain ⟨S, h5⟩ := back h4
        have hv5 : Hd K (enc y) v S := h5.top
        obtain ⟨a, o, e1, e2, _, _, e3, vs3, rfl, d3⟩ := h5.pop.top
        cases e1
        obtain ⟨o2, _, _, h6⟩ := h5.pop.writeT (c' := .lst ((acc ++ [y]).map enc)) (o' := .lst (vs3 ++ [v])) ⟨_, rfl, by rw [List.map_append]; exact d3.append (.cons hv5 .nil)⟩
        exact ⟨vs3, e3, by rw [d3.len, List.length_map]; exact lt_line q6, s1, acc ++ [y], ⟨S, h6⟩, q7⟩
  · rintro H ⟨s, acc, hA2, q3⟩
    rw [List.drop_length] at q3
    obtain ⟨S, h⟩ := hA2
    exact q3 (.ref D) H (At.unS ⟨S, h.oaNone⟩ es ef)
end

/-! ### a def's body -/
section
open PyProof.Rows (envOfC)
variable {P : Program} {w : World} {K : PySem.W.Frag} {mg : Str → Option Value} {base : Heap} {EC : Str → Addr} {α ρ : Type} {n : Nat} {pre : α → List Addr → List (Option Tm)} {post : ρ → List Addr → List (Option Tm)} {ret : ρ → Tm}
abbrev W0 (E : XK) : WX := fun cls d _ H => E cls d H
theorem start_at {g : Gh} {Γ : List (Option Tm)} {N : List Str} {vs : List V} {H : Hp} (h : At K g Γ (vs.map some) [] H) (hl : vs.length = Γ.length) : At K g (Γ ++ List.replicate (N.length - vs.length) none) (L2.start N vs) [] H := by
  obtain ⟨S, h⟩ := h
  have e : ∀ (Γ : List (Option Tm)) (σ : St) (k : Nat), Γ.length = σ.length → pack (σ ++ List.replicate k none) (Γ ++ List.replicate k none) = pack σ Γ := by
    intro Γ
    induction Γ with
    | nil =>
      intro σ k hl
      cases σ with
      | cons _ _ => simp at hl
      | nil =>
        induction k with
        | zero => rfl
        | succ k ih => simpa [pack, List.replicate_succ] using ih
    | cons x Γ ih =>
      intro σ k hl
      cases σ with
      | nil => simp at hl
      | cons y σ =>
        have := ih σ k (by simpa using hl)
        cases x with
        | none => simpa [pack] using this
        | some t => cases y <;> simpa [pack] using this
  have ep := e Γ (vs.map some) (N.length - vs.length) (by simpa using hl.symm)
  unfold L2.start
  refine ⟨S, h.base, by simp [hl], fun x hx => ?_, by rw [ep]; exact h.ns, (fun x hx => nomatch hx), by rw [ep]; exact h.nd⟩
  rw [ep] at hx
  have q := h.all x hx
  obtain ⟨v', t'⟩ := x
  cases t' with
  | als j =>
    rw [List.append_nil] at hx
    exact absurd rfl (h.ns _ hx j)
  | dat _ => exact q
  | own _ _ => exact q
  | bad => exact q
/-- a def whose mirror always hands back -/
theorem fn_ok {x qual : Str} {st : Stmt} {f : Addr} {fd : FuncData} {N pn : List Str} {k : Nat} (F : Fun K x qual st f fd) (S : FnScope N pn (defScope st)) (hn : pn.length = n) (mb : α → O ρ Empty Empty)
    (hbody : ∀ (cdv : Value) (A : Around) (outer : List Env) (s : Shared) (H : Hp) (E : XK), Room k (A.deeper (envOfC qual (defScope st) s.heap.objs.size f cdv)) →
      ∃ ts, PSs (cxOf (L2.CX P w) P w K mg base N qual (defScope st) f cdv A outer s H E) (defBody st) ts ∧
        ∀ (arg : α) (as : List Addr), (pre arg as).length = n → BJ K (⟨EC, fun r => post r as, ret, [], WE (W0 E)⟩ : Fx ρ) (pre arg as ++ List.replicate (N.length - n) none) ts (mb arg) (fun _ => []) (fun _ => []) (fun _ => [])) :
    FnOk P w K mg base (L2.CX P w) (k + 1) f fd pn (Spec K EC n pre (fun a => fin (mb a) fun z => z.elim) post ret) := by
  refine F.okX S (fun vs H Q E h => ?_) fun cdv A outer s H vs Q E hr h => ?_
  · rw [h.1, hn]
  · obtain ⟨ts, h1, h2⟩ := hbody cdv A outer s H E hr
    obtain ⟨hl, arg, as, g, hp, hA, hm⟩ := h
    refine ⟨ts, h1, h2 arg as hp g _ H _ ?_ ?_⟩
    · have := start_at (N := N) hA (by rw [hl, hp])
      rw [hl] at this
      exact this
    · dsimp only at hm
      cases e : mb arg with
      | nx a => exact a.elim
      | rt r => rw [e] at hm; exact fun v H' σ' h' => hm v H' σ' h'
      | bk l => exact l.elim
      | ct l => exact l.elim
      | er x => rw [e] at hm; exact hm
      | stuck => rw [e] at hm; exact hm.elim
/-- a def that may come to its end -/
theorem fn_okN {x qual : Str} {st : Stmt} {f : Addr} {fd : FuncData} {N pn : List Str} {k : Nat} (F : Fun K x qual st f fd) (S : FnScope N pn (defScope st)) (hn : pn.length = n) (mb : α → O ρ Empty ρ) (hN : ∀ r, ret r = .dat eN)
    (hbody : ∀ (cdv : Value) (A : Around) (outer : List Env) (s : Shared) (H : Hp) (E : XK), Room k (A.deeper (envOfC qual (defScope st) s.heap.objs.size f cdv)) →
      ∃ ts, PSs (cxOf (L2.CX P w) P w K mg base N qual (defScope st) f cdv A outer s H E) (defBody st) ts ∧
        ∀ (arg : α) (as : List Addr), (pre arg as).length = n → BJ K (⟨EC, fun r => post r as, ret, [], WE (W0 E)⟩ : Fx ρ) (pre arg as ++ List.replicate (N.length - n) none) ts (mb arg) (fun r => post r as) (fun _ => []) (fun _ => [])) :
    FnOk P w K mg base (L2.CX P w) (k + 1) f fd pn (Spec K EC n pre (fun a => fin (mb a) .nx) post ret) := by
  refine F.okX S (fun vs H Q E h => ?_) fun cdv A outer s H vs Q E hr h => ?_
  · rw [h.1, hn]
  · obtain ⟨ts, h1, h2⟩ := hbody cdv A outer s H E hr
    obtain ⟨hl, arg, as, g, hp, hA, hm⟩ := h
    refine ⟨ts, h1, h2 arg as hp g _ H _ ?_ ?_⟩
    · have := start_at (N := N) hA (by rw [hl, hp])
      rw [hl] at this
      exact this
    · dsimp only at hm
      cases e : mb arg with
      | nx r => rw [e] at hm; exact fun σ' H' h' => hm .non H' σ' (by rw [hN r]; exact h'.scal fun _ => rfl)
      | rt r => rw [e] at hm; exact fun v H' σ' h' => hm v H' σ' h'
      | bk l => exact l.elim
      | ct l => exact l.elim
      | er x => rw [e] at hm; exact hm
      | stuck => rw [e] at hm; exact hm.elim
end
end Gv

set_option Elab.async false
set_option linter.all false
set_option maxRecDepth 100000
set_option maxHeartbeats 2000000
/-! Gv: errors -/
namespace Gv
open PySem L2

/-! ### several clauses, with names or without -/
structure Hn where
  c : Value
  i : Option Nat
  ts : Addr → Value → Option Addr → TS
def goN (i : Option Nat) (P : St → Hp → Prop) : St → Hp → Prop := match i with
  | none => P
  | some j => fun σ H => P (σ.set j none) H
def setN (i : Option Nat) (σ : St) (a : Addr) : St := match i with
  | none => σ
  | some j => σ.set j (some (.ref a))
def endN (i : Option Nat) (D : Ends) : Ends := ⟨goN i D.nx, D.rt, goN i D.bk, goN i D.ct⟩
def wHs (K : PySem.W.Frag) (Wout : WX) (D : Ends) : List Hn → WX
  | [] => Wout
  | h :: r => fun cls d σ H => ∃ b, PySem.W.exmOne K cls h.c = some b ∧ (b = true → ∀ a, H a = none → h.ts a cls d (endN h.i D) (setN h.i σ a) H) ∧ (b = false → wHs K Wout D r cls d σ H)
/-- a try's reading -/
def tTry (K : PySem.W.Frag) (Wout : WX) (l : List Hn) (tb : WX → TS) : TS := fun D σ H => tb (wHs K Wout D l) D σ H
inductive HsOk (X : Cx) : List ExceptHandler → List Hn → Prop
  | nil : HsOk X [] []
  | plain {x : Str} {c : Value} {ts : Addr → Value → Option Addr → TS} {b0 : Stmt} {suite : List Stmt} {np pos' : Pos} {hds : List ExceptHandler} {l : List Hn} (hc : Names X x c)
      (hsu : ∀ (a : Addr) (oe : Obj) (cls : Value) (d : Option Addr) (pn : List (Addr × Obj)), Zc cls d oe → (∃ vs, oe.data = .fields vs) → PSs (X.suite a ((a, oe) :: pn)) (b0 :: suite) (ts a cls d)) (r : HsOk X hds l) :
      HsOk X (.ExceptHandler (some (.Name x np)) none (b0 :: suite) pos' :: hds) (⟨c, none, ts⟩ :: l)
  | named {x n : Str} {i : Nat} {c : Value} {ts : Addr → Value → Option Addr → TS} {b0 : Stmt} {suite : List Stmt} {np pos' : Pos} {hds : List ExceptHandler} {l : List Hn} (hc : Names X x c) (hi : X.N[i]? = some n) (hln : X.env.kindOf n = some .local)
      (hsu : ∀ (a : Addr) (oe : Obj) (cls : Value) (d : Option Addr) (pn : List (Addr × Obj)), Zc cls d oe → (∃ vs, oe.data = .fields vs) → PSs (X.suite a ((a, oe) :: pn)) (b0 :: suite) (ts a cls d)) (r : HsOk X hds l) :
      HsOk X (.ExceptHandler (some (.Name x np)) (some n) (b0 :: suite) pos' :: hds) (⟨c, some i, ts⟩ :: l)
section
variable {X : Cx} {body : List Stmt} {h₀ : ExceptHandler} {hds : List ExceptHandler} {l : List Hn} {pos : Pos} {tb : WX → TS} {Wout : WX}
theorem ps_try (hs : X.stack = X.env :: X.outer) (hf : X.env.frame = some X.env.locals) (hN : X.N.Nodup) (tk : Takes X Wout)
    (hb : ∀ (W : WX) (pn : List (Addr × Obj)) (xe : Value → Shared → Prop), Takes (X.tr pn xe) W → PassesOwn (model X.prog X.w) X.A X.env xe → PSs (X.tr pn xe) body (tb W))
    (hh : HsOk X (h₀ :: hds) l) : PS X (.Try body (h₀ :: hds) [] [] pos) (tTry X.K Wout l tb) := by
  refine ⟨fun pins s σ H D I hw => ?_⟩
  have ok := I.ok
  have frs0 : X.A.frames = some (X.env :: X.outer) := by rw [ok.frames, hs]
  refine wpAny_Try_except ?_
  have bodyOk := (hb (wHs X.K Wout D l) (X.pn ++ pins)
    (fun e s1 => wpAny (model X.prog X.w) X.A (noteFrame e X.env) (fun _ s2 => wpAny (model X.prog X.w) X.A (setFlight e none)
      (fun _ s3 => wpAny (model X.prog X.w) X.A (handleBy e X.env (h₀ :: hds)) (SP X pins D) X.xe s3) X.xe s2) X.xe s1)
    ?caught PassesOwn.looking).run [] s σ H D (I.toTry _) hw
  case caught =>
    intro u s' xx
    obtain ⟨a, B, sI, pins', σ', H', cls, d, eu, J', nb, up, sky, na, os, ag, w⟩ := xx
    subst eu
    have J : Inv X pins σ' H' sI := J'.ofTry ok
    have sky2 : Sky B (X.env :: X.outer) a (Zc cls d) X.env.locals s'.heap := hs ▸ sky
    show wpAny (model X.prog X.w) X.A (noteFrame (.ref a) X.env) _ _ _
    refine Sky.land Zc.steady frs0 hf sky2 fun g3 fl3 up3 => ?_
    have J3 : Inv X pins σ' H' { s' with heap := g3 } := J.landed nb fl3.1 (up.trans up3) os ag
    obtain ⟨o3, v3, at3, z3, dat3⟩ := fl3.there
    have out : a ∉ frs (X.env :: X.outer) := fun hm => by
      obtain ⟨_, o', e', hnf⟩ := fl3.2.2.1.mem hm
      rw [at3] at e'
      cases e'
      exact hnf _ dat3
    have offL : a ≠ X.env.locals := fun z => out (List.mem_filterMap.mpr ⟨X.env, List.mem_cons_self, by rw [hf, z]⟩)
    have offF : a ∉ X.fs := fun hm => by
      obtain ⟨e, he, q⟩ := List.mem_filterMap.mp hm
      exact out (List.mem_filterMap.mpr ⟨e, List.mem_cons_of_mem _ he, q⟩)
    have S3 := J3.suite at3 dat3 na offL offF
    -- a clause's class is asked
    have asked : ∀ {x : Str} {np : Pos} {c : Value} {Q E : Value → Shared → Prop}, Names X x c → Q c { s' with heap := g3 } →
        wpAny (model X.prog X.w) (X.A.mark (some (.ref a))) (eval (.Name x np) X.env) Q E { s' with heap := g3 } := fun {x np c Q E} hc q => by
      obtain ⟨hg, hdbg, hm | ⟨hm, hv, hnn⟩⟩ := hc
      · exact ld_glob (X := X.suite a ((a, o3) :: (X.pn ++ pins))) S3 hg hm q hdbg
      · exact ld_blt (X := X.suite a ((a, o3) :: (X.pn ++ pins))) S3 hg hm hv q hnn hdbg
    have look : PySem.W.Looks (model X.prog X.w) g3 (typeOf (.ref a)) cls := fun A Q E s k q => wpAny_typeOf_ref (k _ _ at3) (by rw [z3.1]; exact q)
    have go : ∀ {hd : List ExceptHandler} {l' : List Hn}, HsOk X hd l' → wHs X.K Wout D l' cls d σ' H' → wpAny (model X.prog X.w) X.A (handleBy (.ref a) X.env hd) (SP X pins D) X.xe { s' with heap := g3 } := by
      intro hd l' hk
      induction hk with
      | nil =>
        intro w
        refine wpAny_handleBy_nil ?_
        obtain ⟨k1, k2, k3, oe, vs, T, oT, ts', he, hz, hd, h1, hr⟩ := id fl3
        unfold PySem.passOn
        refine wpAny_bind (wpAny_field he hd h1 ?_)
        rw [if_neg (show ¬ ((Value.ref T == Value.none) = true) from by simp)]
        have fly : wpAny (model X.prog X.w) X.A (setFlight (.ref a) X.env.frame)
            (fun _ s4 => wpAny (model X.prog X.w) X.A (throw (.ref a) : Sem Flow) (SP X pins D) X.xe s4) X.xe { s' with heap := g3 } := by
          rw [hf]
          refine HandSPX.setFlight_upZ fl3 fun g4 hh4 up4 => wpAny_throw (tk _ _ ?_)
          refine ⟨a, B, sI, pins, σ', H', cls, d, rfl, J, nb, (up.trans up3).trans up4, .inr (.inr ?_), na, os, ag, w⟩
          rw [hs]
          exact hh4
        first
          | exact wpAny_bind (wpAny_pure (wpAny_bind fly))
          | exact wpAny_bind fly
      | plain hc hsu r ih =>
        intro w
        obtain ⟨b, hb1, hyes, hno⟩ := w
        refine wpAny_handleBy_cons (codeAny_handlers_test ?_) (by intro q; cases q)
        refine asked hc ((PySem.W.exm_one (M := model X.prog X.w) J3.kIn look hb1).here ?_)
        cases b with
        | false =>
          show wpAny _ X.A (handleBy (.ref a) X.env _) _ _ _
          exact ih (hno rfl)
        | true =>
          refine codeAny_handlers_suite (HandSPX.lands_againZ fl3 fun g4 fl4 up4 => ?_)
          have J4 : Inv X pins σ' H' { s' with heap := g4 } := J.landed nb fl4.1 ((up.trans up3).trans up4) os ag
          obtain ⟨o4, v4, at4, z4, dat4⟩ := fl4.there
          have S4 := J4.suite at4 dat4 na offL offF
          refine wpAny_mono ((hsu a o4 cls d (X.pn ++ pins) z4 ⟨_, dat4⟩).run [] _ _ H' _ S4 (hyes rfl a na)) (fun f s6 hsp => ?_) (fun _ _ z => False.elim z)
          cases f with
          | next => obtain ⟨p, q, S6, q6⟩ := hsp; exact ⟨p, q, S6.unsuite ok, q6⟩
          | brk => obtain ⟨p, q, S6, q6⟩ := hsp; exact ⟨p, q, S6.unsuite ok, q6⟩
          | cont => obtain ⟨p, q, S6, q6⟩ := hsp; exact ⟨p, q, S6.unsuite ok, q6⟩
          | ret u => obtain ⟨v6, p, q, S6, r6, q6⟩ := hsp; exact ⟨v6, p, q, S6.unsuite ok, r6, q6⟩
      | named hc hi hln hsu r ih =>
        intro w
        obtain ⟨b, hb1, hyes, hno⟩ := w
        refine wpAny_handleBy_cons (codeAny_handlers_test ?_) (by intro q; cases q)
        refine asked hc ((PySem.W.exm_one (M := model X.prog X.w) J3.kIn look hb1).here ?_)
        cases b with
        | false =>
          show wpAny _ X.A (handleBy (.ref a) X.env _) _ _ _
          exact ih (hno rfl)
        | true =>
          refine codeAny_handlers_suite_as (HandSPX.lands_againZ fl3 fun g4 fl4 up4 => ?_)
          have J4 : Inv X pins σ' H' { s' with heap := g4 } := J.landed nb fl4.1 ((up.trans up3).trans up4) os ag
          obtain ⟨o4, v4, at4, z4, dat4⟩ := fl4.there
          have S4 := J4.suite at4 dat4 na offL offF
          refine store_ok (X := X.suite a ((a, o4) :: (X.pn ++ pins))) (v := .ref a) S4 hN hi (.inl hln) rfl (fun s5 S5 => ?_) (.inr hln)
          refine wpAny_mono ((hsu a o4 cls d (X.pn ++ pins) z4 ⟨_, dat4⟩).run [] s5 _ H' _ S5 (hyes rfl a na)) (fun f s6 hsp => ?_) (fun _ _ z => False.elim z)
          cases f with
          | next => obtain ⟨p, q, S6, q6⟩ := hsp; exact gone_ok (S6.unsuite ok) hN hi hln fun s7 J7 => ⟨_, _, J7, q6⟩
          | brk => obtain ⟨p, q, S6, q6⟩ := hsp; exact gone_ok (S6.unsuite ok) hN hi hln fun s7 J7 => ⟨_, _, J7, q6⟩
          | cont => obtain ⟨p, q, S6, q6⟩ := hsp; exact gone_ok (S6.unsuite ok) hN hi hln fun s7 J7 => ⟨_, _, J7, q6⟩
          | ret u => obtain ⟨v6, p, q, S6, r6, q6⟩ := hsp; exact gone_ok (S6.unsuite ok) hN hi hln fun s7 J7 => ⟨_, _, _, J7, r6, q6⟩
    exact go hh w
  refine wpAny_mono bodyOk (fun f s1 hsp => ?_) (fun e s1 he => he)
  cases f with
  | next => obtain ⟨p, q, J, q1⟩ := hsp; exact wpAny_execs_nil ⟨p, q, J.ofTry ok, q1⟩
  | brk => obtain ⟨p, q, J, q1⟩ := hsp; exact ⟨p, q, J.ofTry ok, q1⟩
  | cont => obtain ⟨p, q, J, q1⟩ := hsp; exact ⟨p, q, J.ofTry ok, q1⟩
  | ret u => obtain ⟨v, p, q, J, r, q1⟩ := hsp; exact ⟨v, p, q, J.ofTry ok, r, q1⟩
end

/-! ### mirrors of try -/
def tryO {ρ lam α : Type} (m : O ρ lam α) (h : Er → O ρ lam α) : O ρ lam α := match m with
  | .er x => h x
  | m => m
def noEr {ρ lam α : Type} (m : O ρ lam α) : O ρ lam α := match m with
  | .er _ => .stuck
  | m => m
/-- one clause: its class asked, its suite, the other clauses -/
def clO {ρ lam α : Type} (sub : Str → Option Bool) (ms h : Er → O ρ lam α) (x : Er) : O ρ lam α := match sub x.c with
  | some true => noEr (ms x)
  | some false => h x
  | none => .stuck
/-- the exception that a suite holds -/
def eX (a : Addr) (d : Option Addr) (x : Er) : VP := fun K v S => v = .ref a ∧ XF K S x d
theorem XF.mono {K : PySem.W.Frag} {S S' : Hp} {x : Er} {d : Option Addr} (h : XF K S x d) (e : Same S S') : XF K S' x d := by
  rcases h with h | ⟨dd, fsV, h1, h2, h3⟩
  · exact .inl h
  · exact .inr ⟨dd, fsV, h1, e _ _ h2, Paired.mapP h3 fun _ _ q => ⟨q.1, q.2.mono e⟩⟩
section
variable {K : PySem.W.Frag} {ρ lam α : Type} {X : Fx ρ} {Γ Gt : List (Option Tm)} {n : α → List (Option Tm)} {b c : lam → List (Option Tm)} {t u : TS} {te : TE} {W Wout : WX}
theorem Out.noEr {m : O ρ lam α} {N : α → Prop} {T : ρ → Prop} {B C : lam → Prop} {E E' : Er → Prop} (h : Out (Gv.noEr m) N T B C E) : Out m N T B C E' := by
  cases m <;> first | exact h | exact h.elim
def slotX (io : Option Nat) (G : List (Option Tm)) (a : Addr) (d : Option Addr) (x : Er) : List (Option Tm) := match io with
  | none => G
  | some i => G.set i (some (.dat (eX a d x)))
inductive HJ (K : PySem.W.Frag) {ρ lam α : Type} (X : Fx ρ) (Gt : List (Option Tm)) (n : α → List (Option Tm)) (b c : lam → List (Option Tm)) : List Hn → (Er → O ρ lam α) → Prop
  | nil : HJ K X Gt n b c [] (fun x => .er x)
  | cons {cl : Value} {io : Option Nat} {ts : Addr → Value → Option Addr → TS} {l : List Hn} {sub : Str → Option Bool} {ms h : Er → O ρ lam α}
      (hsub : ∀ nm r, sub nm = some r → PySem.W.exmOne K (.ref (X.EC nm)) cl = some r)
      (hi : ∀ i, io = some i → i < Gt.length ∧ (∀ a, (n a)[i]? = some none ∨ (n a)[i]? = none) ∧ (∀ a, (b a)[i]? = some none ∨ (b a)[i]? = none) ∧ (∀ a, (c a)[i]? = some none ∨ (c a)[i]? = none))
      (hs : ∀ x a d, BJ K { X with EW := fun _ _ _ _ => False } (slotX io Gt a d x) (ts a (.ref (X.EC x.c)) d) (ms x) n b c)
      (r : HJ K X Gt n b c l h) : HJ K X Gt n b c (⟨cl, io, ts⟩ :: l) (clO sub ms h)
theorem At.anyS {g : Gh} {σ : St} {H : Hp} {i : Nat} (h : At K g Γ σ [] H) (hn : Γ[i]? = some none ∨ Γ[i]? = none) (x : Option V) : At K g Γ (σ.set i x) [] H := by
  obtain ⟨S, h⟩ := h
  exact ⟨S, h.any hn x⟩
theorem HJ.go {l : List Hn} {h : Er → O ρ lam α} (hj : HJ K X Gt n b c l h) (hEW : X.EW = WE Wout) (hw : Le X.Gw Gt) {g : Gh} {D : Ends} {x : Er} (hm : Out (h x) (NxW K g n D.nx) (RtW K g X D.rt) (NxW K g b D.bk) (NxW K g c D.ct) (ErW K g X)) {σ' : St} {H' S' : Hp} {d : Option Addr}
    (hA : AtS K g S' Gt σ' [] H') (hx : XF K S' x d) : wHs K Wout D l (.ref (X.EC x.c)) d σ' H' := by
  induction hj with
  | nil =>
    have sub : (pack σ' X.Gw ++ []).Sublist (pack σ' Gt ++ []) := (hw.sub σ').append_right []
    have h2 : AtS K g S' X.Gw σ' [] H' := ⟨hA.base, Nat.le_trans hw.len hA.len, fun y hy => hA.all y (sub.subset hy), fun y hy => hA.ns y ((hw.sub σ').subset hy), (fun y hy => nomatch hy), hA.nd.sublist (addrs_sub sub)⟩
    have q := hm σ' H' S' d h2 hx
    rw [hEW] at q
    exact q
  | @cons cl io ts l sub ms h hsub hi hs r ih =>
    unfold clO at hm
    cases e : sub x.c with
    | none => rw [e] at hm; exact hm.elim
    | some r =>
      rw [e] at hm
      cases r with
      | false => exact ⟨false, hsub _ _ e, (fun z => nomatch z), fun _ => ih hm⟩
      | true =>
        refine ⟨true, hsub _ _ e, fun _ a na => ?_, (fun z => nomatch z)⟩
        cases io with
        | none => exact hs x a d g σ' H' _ ⟨S', hA⟩ hm.noEr
        | some i =>
          obtain ⟨h1, h2, h3, h4⟩ := hi i rfl
          have hA2 : AtS K g S' (Gt.set i (some (.dat (eX a d x)))) (σ'.set i (some (.ref a))) [] H' := (hA.push (p := eX a d x) (v := .ref a) (.of ⟨rfl, hx⟩)).set h1 (fun j z => nomatch z) (fun y hy => nomatch hy)
          refine hs x a d g (σ'.set i (some (.ref a))) H' _ ⟨S', hA2⟩ (hm.noEr.imp (fun y q σ2 H2 hA3 => q _ _ (hA3.anyS (h2 y) none)) (fun _ q => q) (fun y q σ2 H2 hA3 => q _ _ (hA3.anyS (h3 y) none)) (fun y q σ2 H2 hA3 => q _ _ (hA3.anyS (h4 y) none)) fun _ q => q)
theorem bj_try {l : List Hn} {tb : WX → TS} {mb : O ρ lam α} {h : Er → O ρ lam α} (hEW : X.EW = WE Wout) (hw : Le X.Gw Gt) (hb : ∀ W, BJ K { X with Gw := Gt, EW := WE W } Γ (tb W) mb n b c) (hh : HJ K X Gt n b c l h) :
    BJ K X Γ (tTry K Wout l tb) (tryO mb h) n b c := fun g σ H D hA hm => by
  show tb (wHs K Wout D l) D σ H
  refine hb (wHs K Wout D l) g σ H D hA ?_
  cases mb with
  | nx a => exact hm
  | rt r => exact hm
  | bk l => exact hm
  | ct l => exact hm
  | stuck => exact hm
  | er x => exact fun σ' H' S' d hA' hx => hh.go hEW hw hm hA' hx

/-! ### raise X(e), class X: def __init__(self, f): self.f = f -/
def spIni1 (K : PySem.W.Frag) (f : Str) : Sp := fun vs H Q _ => ∃ (a C : Addr) (y : V), vs = [.ref a, y] ∧ H a = some (exo a C none) ∧ OexC K C ∧ PySem.W.findIn K (.ref C) f = some none ∧
  ∀ dx, H dx = none → dx ≠ a → Q .non (upd (upd H dx (exd dx [(f, y)])) a (exo a C (some dx)))
def spIni2 (K : PySem.W.Frag) (f f2 : Str) : Sp := fun vs H Q _ => ∃ (a C : Addr) (y z : V), vs = [.ref a, y, z] ∧ H a = some (exo a C none) ∧ OexC K C ∧ PySem.W.findIn K (.ref C) f = some none ∧ PySem.W.findIn K (.ref C) f2 = some none ∧
  ∀ dx, H dx = none → dx ≠ a → Q .non (upd (upd (upd H dx (exd dx [(f, y)])) a (exo a C (some dx))) dx (exd dx [(f2, z), (f, y)]))
theorem ini1_ok {σ : St} {f : Str} {vs : List V} {H : Hp} {Q : VK} {E : XK} {D : Ends} (hD : D.nx = fun _ H' => Q .non H') (h0 : ∀ a y, vs = [.ref a, y] → σ[0]? = some (some (.ref a)) ∧ σ[1]? = some (some y)) (h : spIni1 K f vs H Q E) : tSeq (tOst K f (tVar 0) (tVar 1)) tNext D σ H := by
  obtain ⟨a, C, y, e, h1, T, hno, k⟩ := h
  obtain ⟨e0, e1⟩ := h0 a y e
  refine ⟨y, e1, .ref a, e0, a, C, rfl, T, hno, .inl ⟨h1, fun dx n ne => ?_⟩⟩
  show D.nx σ _
  rw [hD]
  exact k dx n ne
theorem ini2_ok {σ : St} {f f2 : Str} {vs : List V} {H : Hp} {Q : VK} {E : XK} {D : Ends} (hD : D.nx = fun _ H' => Q .non H') (h0 : ∀ a y z, vs = [.ref a, y, z] → σ[0]? = some (some (.ref a)) ∧ σ[1]? = some (some y) ∧ σ[2]? = some (some z)) (h : spIni2 K f f2 vs H Q E) :
    tSeq (tOst K f (tVar 0) (tVar 1)) (tSeq (tOst K f2 (tVar 0) (tVar 2)) tNext) D σ H := by
  obtain ⟨a, C, y, z, e, h1, T, hno, hno2, k⟩ := h
  obtain ⟨e0, e1, e2⟩ := h0 a y z e
  refine ⟨y, e1, .ref a, e0, a, C, rfl, T, hno, .inl ⟨h1, fun dx n ne => ?_⟩⟩
  refine ⟨z, e2, .ref a, e0, a, C, rfl, T, hno2, .inr ⟨dx, _, upd_same, by rw [upd_ne ne, upd_same], by simp, ?_⟩⟩
  show D.nx σ _
  rw [hD]
  exact k dx n ne
/-- the heap behind C(y): the class's object is gone, its dict stands -/
theorem gone_heap {H : Hp} {a dx : Addr} {o1 o2 o3 o4 : HO} (n : H a = none) (ne : dx ≠ a) : upd (del (upd (upd (upd H a o1) dx o2) a o3) a) dx o4 = upd H dx o4 := by
  funext b
  by_cases hb : b = dx
  · subst hb; rw [upd_same, upd_same]
  · rw [upd_ne hb, upd_ne hb]
    by_cases ha : b = a
    · subst ha; rw [del_same, n]
    · rw [del_ne ha, upd_ne ha, upd_ne hb, upd_ne ha]
theorem gone_heap2 {H : Hp} {a dx : Addr} {o1 o2 o3 o4 o5 : HO} (n : H a = none) (ne : dx ≠ a) : upd (del (upd (upd (upd (upd H a o1) dx o2) a o3) dx o5) a) dx o4 = upd H dx o4 := by
  funext b
  by_cases hb : b = dx
  · subst hb; rw [upd_same, upd_same]
  · rw [upd_ne hb, upd_ne hb]
    by_cases ha : b = a
    · subst ha; rw [del_same, n]
    · rw [del_ne ha, upd_ne hb, upd_ne ha, upd_ne hb, upd_ne ha]
theorem bj_raise1 {C : Addr} {f cn : Str} {dv : PyData} (hC : X.EC cn = C) (T : OexC K C) (hno : PySem.W.findIn K (.ref C) f = some none) (hEW : X.EW = WE W) (hw : Le X.Gw Γ) (he : EV K Γ te (.dat (eD dv))) :
    BJ K X Γ (tSeq (fun _ σ H => tMkO C (spIni1 K f) [] (tCons te tNil) σ H fun cls d H' => W cls d σ H') u) (.er ⟨cn, [(f, dv)]⟩ : O ρ lam α) n b c := fun g σ H D hA hm => by
  refine he g σ [] H _ hA fun y H1 ⟨S, h⟩ => ⟨by simp, fun a na => ⟨a, C, y, rfl, upd_same, T, hno, fun dx nd ne => ⟨rfl, dx, [(f, y)], upd_same, ?_, ?_, ?_⟩⟩⟩
  · rw [upd_ne ne, upd_same]
  · rw [upd_ne ne] at nd; exact nd
  · rw [upd_ne ne] at nd
    rw [gone_heap na ne]
    have hv := h.top
    have h1 := (h.pop.lay (o := .xd [(f, y)]) nd)
    have sub : (pack σ X.Gw ++ []).Sublist (pack σ Γ ++ []) := (hw.sub σ).append_right []
    have h2 : AtS K g _ X.Gw σ [] (upd H1 dx (.xd [(f, y)])) := ⟨h1.base, Nat.le_trans hw.len h1.len, fun x hx => h1.all x (sub.subset hx), fun x hx => h1.ns x ((hw.sub σ).subset hx), (fun x hx => nomatch hx), h1.nd.sublist (addrs_sub sub)⟩
    have q := hm σ _ _ (some dx) h2 (.inr ⟨dx, [(f, y)], rfl, upd_same, .cons ⟨rfl, Hd.mono hv fun b o e => by rw [upd_ne (ne_of_none e (nS_of h nd))]; exact e⟩ .nil⟩)
    rw [hEW] at q
    rw [← hC]
    exact q
theorem bj_raise2 {C : Addr} {f f2 cn : Str} {dv dw : PyData} {te2 : TE} (hC : X.EC cn = C) (T : OexC K C) (hno : PySem.W.findIn K (.ref C) f = some none) (hno2 : PySem.W.findIn K (.ref C) f2 = some none) (hEW : X.EW = WE W) (hw : Le X.Gw Γ) (he : EV K Γ te (.dat (eD dv))) (he2 : EV K Γ te2 (.dat (eD dw))) :
    BJ K X Γ (tSeq (fun _ σ H => tMkO C (spIni2 K f f2) [] (tCons te (tCons te2 tNil)) σ H fun cls d H' => W cls d σ H') u) (.er ⟨cn, [(f2, dw), (f, dv)]⟩ : O ρ lam α) n b c := fun g σ H D hA hm => by
  refine he g σ [] H _ hA fun y H0 h0 => he2 g σ _ H0 _ h0 fun z H1 ⟨S, h⟩ => ⟨by simp, fun a na => ⟨a, C, y, z, rfl, upd_same, T, hno, hno2, fun dx nd ne => ⟨rfl, dx, [(f2, z), (f, y)], ?_, upd_same, ?_, ?_⟩⟩⟩
  · rw [upd_ne (Ne.symm ne), upd_same]
  · rw [upd_ne ne] at nd; exact nd
  · rw [upd_ne ne] at nd
    rw [gone_heap2 na ne]
    have hv := h.top
    have hv2 := h.pop.top
    have h1 := (h.pop.pop.lay (o := .xd [(f2, z), (f, y)]) nd)
    have sub : (pack σ X.Gw ++ []).Sublist (pack σ Γ ++ []) := (hw.sub σ).append_right []
    have h2 : AtS K g _ X.Gw σ [] (upd H1 dx (.xd [(f2, z), (f, y)])) := ⟨h1.base, Nat.le_trans hw.len h1.len, fun x hx => h1.all x (sub.subset hx), fun x hx => h1.ns x ((hw.sub σ).subset hx), (fun x hx => nomatch hx), h1.nd.sublist (addrs_sub sub)⟩
    have same : Same S (upd S dx (.xd [(f2, z), (f, y)])) := fun b o e => by rw [upd_ne (ne_of_none e (nS_of h nd))]; exact e
    have q := hm σ _ _ (some dx) h2 (.inr ⟨dx, [(f2, z), (f, y)], rfl, upd_same, .cons ⟨rfl, Hd.mono hv same⟩ (.cons ⟨rfl, Hd.mono hv2 same⟩ .nil)⟩)
    rw [hEW] at q
    rw [← hC]
    exact q
/-- err.f in a suite -/
def fldR (x : Er) (cn f : Str) : R PyData := if x.c = cn then (match x.fs.lookup f with
  | some d => .nx d
  | none => .stuck) else .stuck
theorem lookup_fs {S : Hp} {f : Str} {d : PyData} : ∀ {fs : List (Str × PyData)} {fsV : List (Str × V)}, Paired (fun (p : Str × PyData) (q : Str × V) => p.1 = q.1 ∧ Hd K (eD p.2) q.2 S) fs fsV → fs.lookup f = some d → ∃ v, fsV.lookup f = some v ∧ Hd K (eD d) v S
  | _, _, .nil, h => by simp at h
  | (a, p) :: _, (a', q) :: _, .cons r t, h => by
    obtain ⟨r1, r2⟩ := r
    have r1' : a = a' := r1
    subst r1'
    by_cases e : f = a
    · subst e
      simp only [List.lookup_cons, beq_self_eq_true] at h ⊢
      cases h
      exact ⟨q, rfl, r2⟩
    · have e2 : (f == a) = false := by simpa using e
      simp only [List.lookup_cons, e2] at h ⊢
      exact lookup_fs t h
theorem x_xf {a C : Addr} {d : Option Addr} {x : Er} {cn f : Str} {i : Nat} {EC : Str → Addr} {g : Gh} {σ : St} {τ : List (V × Tm)} {H : Hp} {Q : VK} {E : Er → Prop} (hC : EC cn = C) (hg : Γ[i]? = some (some (.dat (eX a d x)))) (hA : At K g Γ σ τ H)
    (hm : OutR (fldR x cn f) (fun y => ∀ v H', At K g Γ σ ((v, .dat (eD y)) :: τ) H' → Q v H') E) : tXf a (.ref (EC x.c)) d C f (tVar i) σ H Q :=
  ev_var hg g σ τ H _ hA fun v H1 ⟨S, h⟩ => by
    obtain ⟨S0, e0, hv, hx⟩ := h.top
    have hx := hx.mono e0
    unfold fldR at hm
    by_cases ec : x.c = cn
    · rw [if_pos ec] at hm
      cases el : x.fs.lookup f with
      | none => rw [el] at hm; exact hm.elim
      | some y =>
        rw [el] at hm
        rcases hx with ⟨hf, _⟩ | ⟨dd, fsV, h1, h2, h3⟩
        · rw [hf] at el; cases el
        · obtain ⟨w, w1, w2⟩ := lookup_fs h3 el
          exact ⟨hv, by rw [ec, hC], dd, fsV, w, h1, h.base.sh _ _ h2, w1, hm w H1 ⟨S, h.pop.push w2⟩⟩
    · rw [if_neg ec] at hm; exact hm.elim
end
end Gv

set_option Elab.async false
set_option linter.all false
set_option maxRecDepth 100000
set_option maxHeartbeats 2000000
/-! Gv: steps forward, data of any kind -/
namespace Gv
open PySem L2

/-! ### steps -/
section
variable {K : PySem.W.Frag} {ρ lam α β γ : Type} {X : Fx ρ} {Γ : List (Option Tm)} {g : Gh} {H : Hp} {σ : St} {τ : List (V × Tm)} {v x y : V} {t u z : Tm} {i : Nat} {ta tb tc te : TE} {r : R2} {Q : VK} {N : α → Prop} {T : ρ → Prop} {B C : lam → Prop} {E : Er → Prop}
theorem f_o2m {m : R γ} {zz : γ → Tm} {f : γ → O ρ lam α} (ho : O2M K Γ r t u m zz) (hA : At K g Γ σ ((y, u) :: (x, t) :: τ) H) (hm : Out (bindR m f) N T B C E) (k : ∀ a v H', At K g Γ σ ((v, zz a) :: τ) H' → Out (f a) N T B C E → Q v H') : r x y H Q :=
  ho g σ τ H x y Q E hA (hm.bindR.imp (fun a q v H' h' => k a v H' h' q) fun _ q => q)
theorem f_o1m {r : V → Hp → VK → Prop} {m : R γ} {zz : γ → Tm} {f : γ → O ρ lam α} (ho : O1M K Γ r t m zz) (hA : At K g Γ σ ((x, t) :: τ) H) (hm : Out (bindR m f) N T B C E) (k : ∀ a v H', At K g Γ σ ((v, zz a) :: τ) H' → Out (f a) N T B C E → Q v H') : r x H Q :=
  ho g σ τ H x Q E hA (hm.bindR.imp (fun a q v H' h' => k a v H' h' q) fun _ q => q)
theorem f_popm {e : γ → VP} {xs : List γ} {oa : Option Addr} {f : γ × List γ → O ρ lam α} (hg : Γ[i]? = some (some (.own oa (.lst (xs.map e))))) (hA : At K g Γ σ τ H) (hm : Out (bindR (popR xs) f) N T B C E)
    (k : ∀ r v H', At K g (Γ.set i (some (.own oa (.lst (r.2.map e))))) σ ((v, .dat (e r.1)) :: τ) H' → Out (f r) N T B C E → Q v H') : tBM0 K "list" rPop (tVar i) σ H Q :=
  x_pop hg hA (hm.bindR.imp (fun a q v H' h' => k a v H' h' q) fun _ q => q)
theorem bj_go {n : α → List (Option Tm)} {b c : lam → List (Option Tm)} {m : O ρ lam α} {ts : TS} {D : Ends} (hA : At K g Γ σ [] H) (hm : Out m (NxW K g n D.nx) (RtW K g X D.rt) (NxW K g b D.bk) (NxW K g c D.ct) (ErW K g X)) (h : BJ K X Γ ts m n b c) : ts D σ H := h g σ H D hA hm
theorem f_setgo {n : α → List (Option Tm)} {b c : lam → List (Option Tm)} {m : O ρ lam α} {us : TS} {D : Ends} (hA : At K g Γ σ [(v, t)] H) (hn : ∀ j, t ≠ .als j) (hi : Γ[i]?.isSome = true) (hm : Out m (NxW K g n D.nx) (RtW K g X D.rt) (NxW K g b D.bk) (NxW K g c D.ct) (ErW K g X)) (h : BJ K X (Γ.set i (some t)) us m n b c) : gName i v σ H (us D) :=
  h g _ H D (hA.set1 hn hi) hm
theorem f_setlt {n : α → List (Option Tm)} {b c : lam → List (Option Tm)} {f : β → O ρ lam α} {e : β} {us : TS} {D : Ends} (tm : β → Tm) (hA : At K g Γ σ [(v, tm e)] H) (hn : ∀ t j, tm t ≠ .als j) (hi : Γ[i]?.isSome = true) (hm : Out (lt e f) (NxW K g n D.nx) (RtW K g X D.rt) (NxW K g b D.bk) (NxW K g c D.ct) (ErW K g X)) (h : ∀ t, BJ K X (Γ.set i (some (tm t))) us (f t) n b c) : gName i v σ H (us D) :=
  h e g _ H D (hA.set1 (hn e) hi) hm
theorem f_dropgo {n : α → List (Option Tm)} {b c : lam → List (Option Tm)} {m : O ρ lam α} {us : TS} {D : Ends} (hA : At K g Γ σ [(v, t)] H) (hm : Out m (NxW K g n D.nx) (RtW K g X D.rt) (NxW K g b D.bk) (NxW K g c D.ct) (ErW K g X)) (h : BJ K X Γ us m n b c) : us D σ H :=
  h g _ H D hA.pop hm
/-- calls, argument by argument -/
theorem x_call1 {sp : Sp} {EW : St → XK} (h : ta σ H fun x H1 => sp [x] H1 Q (EW σ)) : tCallS sp EW (tCons ta tNil) σ H Q := h
theorem x_call2 {sp : Sp} {EW : St → XK} (h : ta σ H fun x H1 => tb σ H1 fun y H2 => sp [x, y] H2 Q (EW σ)) : tCallS sp EW (tCons ta (tCons tb tNil)) σ H Q := h
theorem x_call3 {sp : Sp} {EW : St → XK} (h : ta σ H fun x H1 => tb σ H1 fun y H2 => tc σ H2 fun z H3 => sp [x, y, z] H3 Q (EW σ)) : tCallS sp EW (tCons ta (tCons tb (tCons tc tNil))) σ H Q := h
theorem x_call4 {td : TE} {sp : Sp} {EW : St → XK} (h : ta σ H fun x H1 => tb σ H1 fun y H2 => tc σ H2 fun z H3 => td σ H3 fun w H4 => sp [x, y, z, w] H4 Q (EW σ)) : tCallS sp EW (tCons ta (tCons tb (tCons tc (tCons td tNil)))) σ H Q := h
theorem x_call5 {td te : TE} {sp : Sp} {EW : St → XK} (h : ta σ H fun x H1 => tb σ H1 fun y H2 => tc σ H2 fun z H3 => td σ H3 fun w H4 => te σ H4 fun w2 H5 => sp [x, y, z, w, w2] H5 Q (EW σ)) : tCallS sp EW (tCons ta (tCons tb (tCons tc (tCons td (tCons te tNil))))) σ H Q := h
/-- displays -/
def TupK (Q : VK) (xs : List V) (H : Hp) : Prop := xs.length ≤ sizeLine ∧ ∀ p, H p = none → Q (.ref p) (upd H p (.tup xs))
def LstK (Q : VK) (xs : List V) (H : Hp) : Prop := xs.length ≤ sizeLine ∧ ∀ p, H p = none → Q (.ref p) (upd H p (.lst xs))
theorem x_tup {ta : TA} (h : ta σ H fun xs H1 => TupK Q xs H1) : tTup ta σ H Q := h
theorem x_lst {ta : TA} (h : ta σ H fun xs H1 => LstK Q xs H1) : tLst ta σ H Q := h
theorem x_cons {tr : TA} {Q : List V → Hp → Prop} (h : ta σ H fun x H1 => tr σ H1 fun xs H2 => Q (x :: xs) H2) : tCons ta tr σ H Q := h
theorem x_nil {Q : List V → Hp → Prop} (h : Q [] H) : tNil σ H Q := h
theorem f_tup {vs : List V} (ps : List VP) (hA : At K g Γ σ ((vs.zip (ps.map Tm.dat)).reverse ++ τ) H) (hl : vs.length = ps.length) (hz : ps.length ≤ 100) (k : ∀ v H', At K g Γ σ ((v, .dat (rT ps)) :: τ) H' → Q v H') : TupK Q vs H := by
  obtain ⟨S, h⟩ := hA
  obtain ⟨d, h2⟩ := h.datas hl
  exact ⟨by rw [hl]; exact Nat.le_trans hz (by decide), fun a ha => k _ _ (h2.newT ha d)⟩
theorem f_lst {vs : List V} (ps : List VP) (hA : At K g Γ σ ((vs.zip (ps.map Tm.dat)).reverse ++ τ) H) (hl : vs.length = ps.length) (hz : ps.length ≤ 100) (k : ∀ v H', At K g Γ σ ((v, .own none (.lst ps)) :: τ) H' → Q v H') : LstK Q vs H := by
  obtain ⟨S, h⟩ := hA
  obtain ⟨d, h2⟩ := h.datas hl
  exact ⟨by rw [hl]; exact Nat.le_trans hz (by decide), fun a ha => k _ _ ⟨S, h2.fresh ha ⟨vs, rfl, d⟩⟩⟩
/-- tests -/
theorem x_not {tt : TT} {Q : Bool → Hp → Prop} (h : tt σ H fun c H1 => Q (!c) H1) : tNot tt σ H Q := h
theorem x_orT {tt uu : TT} {Q : Bool → Hp → Prop} (h : tt σ H fun c H1 => if c = true then Q true H1 else uu σ H1 Q) : tOr tt uu σ H Q := h
theorem x_andT {tt uu : TT} {Q : Bool → Hp → Prop} (h : tt σ H fun c H1 => if c = true then uu σ H1 Q else Q false H1) : tAnd tt uu σ H Q := h
theorem x_orV (h : ta σ H fun x H1 => ∃ c, x = .bl c ∧ if c = true then Q (.bl true) H1 else tb σ H1 Q) : tOrV ta tb σ H Q := h
theorem x_andV (h : ta σ H fun x H1 => ∃ c, x = .bl c ∧ if c = true then tb σ H1 Q else Q (.bl false) H1) : tAndV ta tb σ H Q := h
theorem x_notV (h : ta σ H fun x H1 => ∃ c, x = .bl c ∧ Q (.bl (!c)) H1) : tNotV ta σ H Q := h
theorem f_tst {b : Bool} {P : Bool → Hp → Prop} (hA : At K g Γ σ ((v, .dat (eB b)) :: τ) H) (k : At K g Γ σ τ H → P b H) : ∃ c, v = .bl c ∧ P c H := by
  obtain ⟨S, h⟩ := hA
  exact ⟨b, h.top.b, k ⟨S, h.pop⟩⟩
theorem f_pick {b : Bool} {m1 m2 : O ρ lam α} {P1 P2 : Prop} (hm : Out (if b then m1 else m2) N T B C E) (h1 : Out m1 N T B C E → P1) (h2 : Out m2 N T B C E → P2) : if b = true then P1 else P2 := by
  cases b with
  | true => exact h1 hm
  | false => exact h2 hm
theorem f_ifS {b : Bool} {m1 m2 : O ρ lam α} {t u z : TS} {D : Ends} (hm : Out (if b then m1 else m2) N T B C E) (h1 : Out m1 N T B C E → tSeq t z D σ H) (h2 : Out m2 N T B C E → tSeq u z D σ H) : if b = true then t { D with nx := z D } σ H else u { D with nx := z D } σ H := by
  cases b with
  | true => exact h1 hm
  | false => exact h2 hm
/-- ways that meet again: a value, a test -/
theorem f_join {m : O ρ lam γ} {f : γ → O ρ lam α} {P : Prop} (Gj : γ → List (Option Tm)) (zj : γ → Tm) (hm : Out (m.bind f) N T B C E) (k : ∀ c v H', At K g (Gj c) σ ((v, zj c) :: τ) H' → Out (f c) N T B C E → Q v H')
    (h : Out m (fun c => ∀ v H', At K g (Gj c) σ ((v, zj c) :: τ) H' → Q v H') T B C E → P) : P := h (hm.bind.imp (fun c q v H' h' => k c v H' h' q) (fun _ q => q) (fun _ q => q) (fun _ q => q) fun _ q => q)
theorem f_joinB {m : O ρ lam γ} {f : γ → O ρ lam α} {P : Prop} {Q : Bool → Hp → Prop} (Gj : γ → List (Option Tm)) (bj : γ → Bool) (hm : Out (m.bind f) N T B C E) (k : ∀ c H', At K g (Gj c) σ τ H' → Out (f c) N T B C E → Q (bj c) H')
    (h : Out m (fun c => ∀ H', At K g (Gj c) σ τ H' → Q (bj c) H') T B C E → P) : P := h (hm.bind.imp (fun c q H' h' => k c H' h' q) (fun _ q => q) (fun _ q => q) (fun _ q => q) fun _ q => q)
theorem f_lc2 {sT : Type} {e : β → VP} {js vs : List Nat} {ps : β → List VP} {enc : γ → VP} {wi : TI} {tg : TG} {tt : TT} {m : R (List β)} {f : sT → β → R (sT × Option γ)} {F : sT × List γ → O ρ lam α} (Gl : sT → List (Option Tm)) (s0 : sT) (hi : ITM K (Gl s0) wi m e) (ht : ∀ b, TJ K tg (e b) js (ps b)) (nd : js.Nodup)
    (hn : ∀ s, ∀ j ∈ js, (Gl s)[j]? = some none) (hv : ∀ s, ∀ j ∈ vs, (Gl s)[j]? = some none) (hsub : ∀ j ∈ js, j ∈ vs) (hl : LJ K Gl js ps enc tt te f) (hA : At K g (Gl s0) σ τ H)
    (hm : Out (bindR (bindR m fun xs => lcR f xs s0 []) F) N T B C E) (k : ∀ r v H', At K g (Gl r.1) σ ((v, oL enc r.2) :: τ) H' → Out (F r) N T B C E → Q v H') : tLc wi tg tt te vs σ H Q :=
  f_lc Gl s0 hi ht nd hn hv hsub hl hA (hm.bindR.imp (fun r q v H' h' => k r v H' h' q) fun _ q => q)
theorem At.box {p q : VP} (h : At K g Γ σ ((v, .dat p) :: τ) H) (hb : ∀ v S, Hd K p v S → Hd K q v S) : At K g Γ σ ((v, .dat q) :: τ) H := by
  obtain ⟨S, h⟩ := h
  exact ⟨S, h.pop.push (hb v S h.top)⟩
end

/-! ### data as PyData -/
def dN (_ : Unit) : PyData := .none
def dL {α : Type} (d : α → PyData) (xs : List α) : PyData := .list (xs.map d)
def dT {α : Type} (d : α → PyData) (xs : List α) : PyData := .tuple (xs.map d)
def dO {α : Type} (d : α → PyData) : Option α → PyData
  | none => .none
  | some a => d a
def dP1 {α : Type} (d : α → PyData) (x : α) : PyData := .tuple [d x]
def dP2 {α β : Type} (d : α → PyData) (f : β → PyData) (x : α × β) : PyData := .tuple [d x.1, f x.2]
def dP3 {α β γ : Type} (d : α → PyData) (f : β → PyData) (h : γ → PyData) (x : α × β × γ) : PyData := .tuple [d x.1, f x.2.1, h x.2.2]
def dP4 {α β γ δ : Type} (d : α → PyData) (f : β → PyData) (h : γ → PyData) (k : δ → PyData) (x : α × β × γ × δ) : PyData := .tuple [d x.1, f x.2.1, h x.2.2.1, k x.2.2.2]
/-- a kind's values are data -/
def Bx {α : Type} (e : α → VP) (d : α → PyData) : Prop := ∀ K x v S, Hd K (e x) v S → Dp K S v (d x)
section
variable {K : PySem.W.Frag} {S S' H : Hp} {α β γ δ : Type}
mutual
theorem Dp.mono (e : Same S S') : ∀ {d : PyData} {v : V}, Dp K S v d → Dp K S' v d
  | .none, _, h => by cases h; exact .non
  | .bool _, _, h => by cases h; exact .bl _
  | .int _, _, h => by cases h; exact .int _
  | .str _, _, h => by cases h; exact .str _
  | .list ds, _, h => by
    cases h with
    | lst hs ha => exact .lst (e.seq hs) (DpAll.mono e ha)
  | .tuple ds, _, h => by
    cases h with
    | tup hs ha => exact .tup (same_t e hs) (DpAll.mono e ha)
  | .dict _, _, h => by cases h
theorem DpAll.mono (e : Same S S') : ∀ {ds : List PyData} {vs : List V}, DpAll K S vs ds → DpAll K S' vs ds
  | [], _, h => by cases h; exact .nil
  | d :: ds, _, h => by
    cases h with
    | cons h1 h2 => exact .cons (Dp.mono e h1) (DpAll.mono e h2)
end
theorem bx_i : Bx eI PyData.int := fun K x v S h => by rw [h.i]; exact .int x
theorem bx_b : Bx eB PyData.bool := fun K x v S h => by rw [h.b]; exact .bl x
theorem bx_s : Bx eS PyData.str := fun K x v S h => by rw [h.s]; exact .str x
theorem bx_n : Bx eU dN := fun K x v S h => by have e : v = .non := Hd.n h; rw [e]; exact .non
theorem bx_d : Bx eD id := fun K x v S h => by
  obtain ⟨S0, e, q⟩ := h
  exact Dp.mono e q
theorem bx_o {e : α → VP} {d : α → PyData} (h : Bx e d) : Bx (eO e) (dO d) := fun K x v S q => by
  cases x with
  | none => have e : v = .non := Hd.n q; rw [e]; exact .non
  | some a => exact h K a v S q
theorem bx_all {e : α → VP} {d : α → PyData} (h : Bx e d) : ∀ {xs : List α} {vs : List V}, Hds K S (xs.map e) vs → DpAll K S vs (xs.map d)
  | [], _, .nil => .nil
  | x :: xs, _, .cons r t => .cons (h K x _ S r) (bx_all h t)
theorem bx_l {e : α → VP} {d : α → PyData} (h : Bx e d) : Bx (eL e) (dL d) := fun K x v S q => by
  obtain ⟨a, vs, rfl, h2, h3⟩ := Hd.l q
  exact .lst h2 (bx_all h h3)
theorem bx_t {e : α → VP} {d : α → PyData} (h : Bx e d) : Bx (eT e) (dT d) := fun K x v S q => by
  obtain ⟨a, vs, rfl, h2, h3⟩ := Hd.t q
  exact .tup h2 (bx_all h h3)
theorem bx_p1 {e : α → VP} {d : α → PyData} (h : Bx e d) : Bx (eP1 e) (dP1 d) := fun K x v S q => by
  obtain ⟨a, vs, rfl, h2, h3⟩ := Hd.t q
  cases h3 with
  | cons r1 t => cases t; exact .tup h2 (.cons (h K _ _ S r1) .nil)
theorem bx_p2 {e : α → VP} {d : α → PyData} {e2 : β → VP} {d2 : β → PyData} (h : Bx e d) (k : Bx e2 d2) : Bx (eP2 e e2) (dP2 d d2) := fun K x v S q => by
  obtain ⟨a, vs, rfl, h2, h3⟩ := Hd.t q
  cases h3 with
  | cons r1 t => cases t with
    | cons r2 t => cases t; exact .tup h2 (.cons (h K _ _ S r1) (.cons (k K _ _ S r2) .nil))
theorem bx_p3 {e : α → VP} {d : α → PyData} {e2 : β → VP} {d2 : β → PyData} {e3 : γ → VP} {d3 : γ → PyData} (h : Bx e d) (k : Bx e2 d2) (l : Bx e3 d3) : Bx (eP3 e e2 e3) (dP3 d d2 d3) := fun K x v S q => by
  obtain ⟨a, vs, rfl, h2, h3⟩ := Hd.t q
  cases h3 with
  | cons r1 t => cases t with
    | cons r2 t => cases t with
      | cons r3 t => cases t; exact .tup h2 (.cons (h K _ _ S r1) (.cons (k K _ _ S r2) (.cons (l K _ _ S r3) .nil)))
theorem bx_p4 {e : α → VP} {d : α → PyData} {e2 : β → VP} {d2 : β → PyData} {e3 : γ → VP} {d3 : γ → PyData} {e4 : δ → VP} {d4 : δ → PyData} (h : Bx e d) (k : Bx e2 d2) (l : Bx e3 d3) (m : Bx e4 d4) : Bx (eP4 e e2 e3 e4) (dP4 d d2 d3 d4) := fun K x v S q => by
  obtain ⟨a, vs, rfl, h2, h3⟩ := Hd.t q
  cases h3 with
  | cons r1 t => cases t with
    | cons r2 t => cases t with
      | cons r3 t => cases t with
        | cons r4 t => cases t; exact .tup h2 (.cons (h K _ _ S r1) (.cons (k K _ _ S r2) (.cons (l K _ _ S r3) (.cons (m K _ _ S r4) .nil))))
theorem Bx.hd {e : α → VP} {d : α → PyData} (h : Bx e d) {x : α} : ∀ v S, Hd K (e x) v S → Hd K (eD (d x)) v S := fun v S q => .of (h K x v S q)
theorem ev_box {Γ : List (Option Tm)} {te : TE} {e : α → VP} {d : α → PyData} {x : α} (h : Bx e d) (he : EV K Γ te (.dat (e x))) : EV K Γ te (.dat (eD (d x))) := fun g σ τ H Q hA k => he g σ τ H Q hA fun v H' h' => k v H' (h'.box h.hd)
/-! ### == of data -/
/-- == tells equality of a kind's values; they can be compared -/
structure EqK (d : α → PyData) (n : Nat) : Prop where
  eq : ∀ x y, PyData.eqv (d x) (d y) = true ↔ x = y
  lay : ∀ x, PyData.canLay0 (d x) = true
  dep : ∀ x, PyData.depth (d x) ≤ n
end
end Gv

set_option Elab.async false
set_option linter.all false
set_option maxRecDepth 100000
set_option maxHeartbeats 2000000
/-! Gv: ==, isinstance, data of any kind -/
namespace Gv
open PySem L2
section
variable {K : PySem.W.Frag} {Γ : List (Option Tm)} {α β γ δ : Type} {t u : Tm} {n m : Nat}
theorem eqvAll_c (x y : PyData) (xs ys : List PyData) : PyData.eqvAll (x :: xs) (y :: ys) = (PyData.eqv x y && PyData.eqvAll xs ys) := by rw [PyData.eqvAll]
theorem eqvAll_n : PyData.eqvAll [] [] = true := by rw [PyData.eqvAll]
theorem layAll_c (x : PyData) (xs : List PyData) : PyData.canLayAll0 (x :: xs) = (PyData.canLay0 x && PyData.canLayAll0 xs) := by rw [PyData.canLayAll0]
theorem layAll_n : PyData.canLayAll0 [] = true := by rw [PyData.canLayAll0]
theorem depAll_c (x : PyData) (xs : List PyData) : PyData.depthAll (x :: xs) = max (PyData.depth x) (PyData.depthAll xs) := by rw [PyData.depthAll]
theorem depAll_n : PyData.depthAll [] = 0 := by rw [PyData.depthAll]
structure NoN (d : α → PyData) : Prop where
  l : ∀ x, PyData.eqv .none (d x) = false
  r : ∀ x, PyData.eqv (d x) .none = false
theorem non_i : NoN PyData.int := ⟨fun x => by rw [PyData.eqv], fun x => by rw [PyData.eqv]⟩
theorem non_b : NoN PyData.bool := ⟨fun x => by rw [PyData.eqv], fun x => by rw [PyData.eqv]⟩
theorem non_s : NoN PyData.str := ⟨fun x => by rw [PyData.eqv], fun x => by rw [PyData.eqv]⟩
theorem non_l {d : α → PyData} : NoN (dL d) := ⟨fun x => by rw [dL, PyData.eqv], fun x => by rw [dL, PyData.eqv]⟩
theorem non_t {f : α → List PyData} : NoN (fun x => PyData.tuple (f x)) := ⟨fun x => by rw [PyData.eqv], fun x => by rw [PyData.eqv]⟩
theorem eq_i : EqK PyData.int 0 := ⟨fun x y => by rw [PyData.eqv]; exact beq_iff_eq, fun x => by rw [PyData.canLay0], fun x => by rw [PyData.depth]; exact Nat.le_refl 0⟩
theorem eq_b : EqK PyData.bool 0 := ⟨fun x y => by rw [PyData.eqv]; exact beq_iff_eq, fun x => by rw [PyData.canLay0], fun x => by rw [PyData.depth]; exact Nat.le_refl 0⟩
theorem eq_n : EqK dN 0 := ⟨fun x y => by rw [dN, PyData.eqv]; simp, fun x => by rw [dN, PyData.canLay0], fun x => by rw [dN, PyData.depth]; exact Nat.le_refl 0⟩
theorem eq_o {d : α → PyData} (h : EqK d n) (k : NoN d) : EqK (dO d) n := ⟨fun x y => by
  cases x with
  | none =>
    cases y with
    | none => simp [dO, PyData.eqv]
    | some b => simp [dO, k.l b]
  | some a =>
    cases y with
    | none => simp [dO, k.r a]
    | some b => simp [dO, h.eq a b], fun x => by
  cases x with
  | none => rw [dO, PyData.canLay0]
  | some a => exact h.lay a, fun x => by
  cases x with
  | none => rw [dO, PyData.depth]; exact Nat.zero_le n
  | some a => exact h.dep a⟩
theorem eq_all {d : α → PyData} (h : EqK d n) : (∀ xs ys : List α, PyData.eqvAll (xs.map d) (ys.map d) = true ↔ xs = ys) ∧ (∀ xs : List α, PyData.canLayAll0 (xs.map d) = true) ∧ ∀ xs : List α, PyData.depthAll (xs.map d) ≤ n := by
  refine ⟨fun xs => ?_, fun xs => ?_, fun xs => ?_⟩
  · induction xs with
    | nil =>
      intro ys
      cases ys with
      | nil => simp [eqvAll_n]
      | cons y ys => simp [PyData.eqvAll]
    | cons x xs ih =>
      intro ys
      cases ys with
      | nil => simp [PyData.eqvAll]
      | cons y ys => simp [eqvAll_c, h.eq x y, ih ys]
  · induction xs with
    | nil => exact layAll_n
    | cons x xs ih => rw [List.map_cons, layAll_c, h.lay x, ih]; rfl
  · induction xs with
    | nil => rw [List.map_nil, depAll_n]; exact Nat.zero_le n
    | cons x xs ih => rw [List.map_cons, depAll_c]; exact Nat.max_le.mpr ⟨h.dep x, ih⟩
theorem eq_l {d : α → PyData} (h : EqK d n) : EqK (dL d) (n + 1) := ⟨fun x y => by rw [dL, dL, PyData.eqv]; exact (eq_all h).1 x y, fun x => by rw [dL, PyData.canLay0]; exact (eq_all h).2.1 x, fun x => by rw [dL, PyData.depth]; exact Nat.succ_le_succ ((eq_all h).2.2 x)⟩
theorem eq_t {d : α → PyData} (h : EqK d n) : EqK (dT d) (n + 1) := ⟨fun x y => by rw [dT, dT, PyData.eqv]; exact (eq_all h).1 x y, fun x => by rw [dT, PyData.canLay0]; exact (eq_all h).2.1 x, fun x => by rw [dT, PyData.depth]; exact Nat.succ_le_succ ((eq_all h).2.2 x)⟩
theorem EqK.up {d : α → PyData} (h : EqK d n) (k : n ≤ m) : EqK d m := ⟨h.eq, h.lay, fun x => Nat.le_trans (h.dep x) k⟩
theorem eq_p1 {d : α → PyData} (h : EqK d n) : EqK (dP1 d) (n + 1) := ⟨fun x y => by simp [dP1, PyData.eqv, eqvAll_c, eqvAll_n, h.eq], fun x => by simp [dP1, PyData.canLay0, layAll_c, layAll_n, h.lay], fun x => by
  simp only [dP1, PyData.depth, depAll_c, depAll_n]; have := h.dep x; omega⟩
theorem eq_p2 {d : α → PyData} {d2 : β → PyData} (h : EqK d n) (k : EqK d2 m) : EqK (dP2 d d2) (n + m + 1) := ⟨fun x y => by
  obtain ⟨a, b⟩ := x
  obtain ⟨a', b'⟩ := y
  simp [dP2, PyData.eqv, eqvAll_c, eqvAll_n, h.eq, k.eq], fun x => by simp [dP2, PyData.canLay0, layAll_c, layAll_n, h.lay, k.lay], fun x => by
  simp only [dP2, PyData.depth, depAll_c, depAll_n]; have := h.dep x.1; have := k.dep x.2; omega⟩
theorem eq_p3 {d : α → PyData} {d2 : β → PyData} {d3 : γ → PyData} {l : Nat} (h : EqK d n) (k : EqK d2 m) (o : EqK d3 l) : EqK (dP3 d d2 d3) (n + m + l + 1) := ⟨fun x y => by
  obtain ⟨a, b, c⟩ := x
  obtain ⟨a', b', c'⟩ := y
  simp [dP3, PyData.eqv, eqvAll_c, eqvAll_n, h.eq, k.eq, o.eq], fun x => by simp [dP3, PyData.canLay0, layAll_c, layAll_n, h.lay, k.lay, o.lay], fun x => by
  simp only [dP3, PyData.depth, depAll_c, depAll_n]; have := h.dep x.1; have := k.dep x.2.1; have := o.dep x.2.2; omega⟩
theorem EqK.shaped {d : α → PyData} (h : EqK d n) (hn : n ≤ 64) (x : α) : SeqAt.shaped (d x) = true := by
  unfold SeqAt.shaped
  rw [h.lay x, decide_eq_true (Nat.le_trans (h.dep x) hn)]
  rfl
/-- what stands on the stack is the datum d -/
def DpT (K : PySem.W.Frag) (G : List (Option Tm)) (t : Tm) (d : PyData) : Prop := ∀ g S σ τ H v, AtS K g S G σ τ H → (v, t) ∈ τ → Dp K H v d
theorem DpT.dat {e : α → VP} {d : α → PyData} {x : α} (h : Bx e d) : DpT K Γ (.dat (e x)) (d x) := fun g S σ τ H v hA hm => Dp.mono hA.base.sh (h K x v S (hA.all _ (List.mem_append_right _ hm)))
theorem DpT.lst {e : α → VP} {d : α → PyData} {xs : List α} (h : Bx e d) (hl : IsL Γ t (xs.map e)) : DpT K Γ t (dL d xs) := fun g S σ τ H v hA hm => by
  obtain ⟨a, vs, rfl, h2, h3⟩ := hA.isL hm hl
  exact .lst h2 (DpAll.mono hA.base.sh (bx_all h h3))
theorem o2_eqD0 {a b : PyData} {c : Bool} (h1 : DpT K Γ t a) (h2 : DpT K Γ u b) (s1 : SeqAt.shaped a = true) (s2 : SeqAt.shaped b = true) (hc : PyData.eqv a b = c) : O2 K Γ (rEqD K) t u (.dat (eB c)) := fun g σ τ H x y Q ⟨S, h⟩ k =>
  ⟨a, b, h1 g S σ _ H x h (List.mem_cons_of_mem _ List.mem_cons_self), h2 g S σ _ H y h List.mem_cons_self, s1, s2, by rw [hc]; exact k _ H ⟨S, h.pop.pop.push (.of rfl)⟩⟩
theorem o2_neD0 {a b : PyData} {c : Bool} (h1 : DpT K Γ t a) (h2 : DpT K Γ u b) (s1 : SeqAt.shaped a = true) (s2 : SeqAt.shaped b = true) (hc : PyData.eqv a b = c) : O2 K Γ (rNeD K) t u (.dat (eB (!c))) := fun g σ τ H x y Q ⟨S, h⟩ k =>
  ⟨a, b, h1 g S σ _ H x h (List.mem_cons_of_mem _ List.mem_cons_self), h2 g S σ _ H y h List.mem_cons_self, s1, s2, by rw [hc]; exact k _ H ⟨S, h.pop.pop.push (.of rfl)⟩⟩
theorem EqK.dec [DecidableEq α] {d : α → PyData} (h : EqK d n) (x y : α) : PyData.eqv (d x) (d y) = decide (x = y) := by
  by_cases e : x = y
  · rw [decide_eq_true e]; exact (h.eq x y).mpr e
  · rw [decide_eq_false e]
    cases q : PyData.eqv (d x) (d y) with
    | false => rfl
    | true => exact absurd ((h.eq x y).mp q) e
theorem o2_eqD [DecidableEq α] {d : α → PyData} {x y : α} (h1 : DpT K Γ t (d x)) (h2 : DpT K Γ u (d y)) (h : EqK d n) (hn : n ≤ 64 := by decide) : O2 K Γ (rEqD K) t u (.dat (eB (decide (x = y)))) :=
  o2_eqD0 h1 h2 (h.shaped hn x) (h.shaped hn y) (h.dec x y)
theorem o2_neD [DecidableEq α] {d : α → PyData} {x y : α} (h1 : DpT K Γ t (d x)) (h2 : DpT K Γ u (d y)) (h : EqK d n) (hn : n ≤ 64 := by decide) : O2 K Γ (rNeD K) t u (.dat (eB (!decide (x = y)))) :=
  o2_neD0 h1 h2 (h.shaped hn x) (h.shaped hn y) (h.dec x y)
/-- with texts inside: they must be texts of proper signs -/
def eqR (a b : PyData) : R Bool := gd (SeqAt.shaped a && SeqAt.shaped b) (PyData.eqv a b)
theorem o2_eqDM {a b : PyData} (h1 : DpT K Γ t a) (h2 : DpT K Γ u b) : O2M K Γ (rEqD K) t u (eqR a b) (fun c => .dat (eB c)) := At.part2 fun h => o2_eqD0 h1 h2 (Bool.and_eq_true_iff.mp h).1 (Bool.and_eq_true_iff.mp h).2 rfl
theorem o2_neDM {a b : PyData} (h1 : DpT K Γ t a) (h2 : DpT K Γ u b) : O2M K Γ (rNeD K) t u (eqR a b) (fun c => .dat (eB (!c))) := At.part2 fun h => o2_neD0 h1 h2 (Bool.and_eq_true_iff.mp h).1 (Bool.and_eq_true_iff.mp h).2 rfl

/-! ### isinstance -/
def tyD : PyData → String
  | .none => "NoneType" | .bool _ => "bool" | .int _ => "int" | .str _ => "str" | .list _ => "list" | .tuple _ => "tuple" | .dict _ => "dict"
def isA (T : String) (d : PyData) : Bool := match T, d with
  | "int", .int _ => true | "int", .bool _ => true | "bool", .bool _ => true | "str", .str _ => true | "list", .list _ => true | "tuple", .tuple _ => true | _, _ => false
theorem Dp.tyx {H : Hp} {v : V} {d : PyData} (h : Dp K H v d) : TyX K H v (.type (tyD d)) := by
  cases h with
  | non => exact .base .non
  | bl b => exact .base (.bl b)
  | int i => exact .base (.int i)
  | str x => exact .base (.str x)
  | lst hs _ =>
    rcases hs with (h | ⟨o, h⟩) | ⟨o, its, n, h1, h2, _⟩
    · exact .base (.lst h)
    · exact .base (.frz h)
    · exact .kList h1 h2
  | tup hs _ =>
    rcases hs with (h | ⟨o, h⟩) | ⟨o, its, n, h1, h2, _⟩
    · exact .base (.tup h)
    · exact .fTuple h
    · exact .kTuple h1 h2
/-- the built-in classes that are asked for -/
inductive AskT : String → Prop
  | int : AskT "int" | bool : AskT "bool" | str : AskT "str" | list : AskT "list" | tuple : AskT "tuple"
theorem kit_isA {T : String} (a : AskT T) {H : Hp} {v : V} {d : PyData} (h : Dp K H v d) : PySem.W.kitOne K (.type (tyD d)) (.type T) = some (isA T d) := by
  have go : ∀ (s T : String) (r : Bool), kitB s T = some r → PySem.W.kitOne K (.type s) (.type T) = some r := fun s T r h => kit_ty h
  cases a <;> cases h <;> first
    | exact go "bool" _ true (by decide +kernel) | exact go "bool" _ false (by decide +kernel) | exact go "NoneType" _ false (by decide +kernel)
    | exact go "int" _ true (by decide +kernel) | exact go "int" _ false (by decide +kernel) | exact go "str" _ true (by decide +kernel) | exact go "str" _ false (by decide +kernel)
    | exact go "list" _ true (by decide +kernel) | exact go "list" _ false (by decide +kernel) | exact go "tuple" _ true (by decide +kernel) | exact go "tuple" _ false (by decide +kernel)
theorem o2_isi {T : String} {d : PyData} (a : AskT T) (h1 : DpT K Γ t d) : O2 K Γ (fun x y => rIsi K [x, y]) t (.dat (eV (.ty T))) (.dat (eB (isA T d))) := fun g σ τ H x y Q ⟨S, h⟩ k => by
  have hd := h1 g S σ _ H x h (List.mem_cons_of_mem _ List.mem_cons_self)
  have ey : y = .ty T := Hd.v h.top
  subst ey
  exact ⟨x, .ty T, .type (tyD d), .type T, isA T d, rfl, .ty T, (Dp.tyx hd), kit_isA a hd, k _ H ⟨S, h.pop.pop.push (.of rfl)⟩⟩
theorem ev_isi {ta : TE} {T : String} {d : PyData} (a : AskT T) (he : EV K Γ ta t) (h1 : DpT K Γ t d) : EV K Γ (tCB (rIsi K) (tCons ta (tCons (tC (.ty T)) tNil))) (.dat (eB (isA T d))) := ev_cb2 he ev_cv (o2_isi a h1)
theorem f_isiT {T1 T2 : String} {d : PyData} {g : Gh} {σ : St} {τ : List (V × Tm)} {H : Hp} {x : V} {Q : VK} (a1 : AskT T1) (a2 : AskT T2) (h1 : DpT K Γ t d) (hA : At K g Γ σ ((x, t) :: τ) H) (k : ∀ v H', At K g Γ σ ((v, .dat (eB (isA T1 d || isA T2 d))) :: τ) H' → Q v H') :
    tCons (tTup (tCons (tC (.ty T1)) (tCons (tC (.ty T2)) tNil))) tNil σ H (fun xs H2 => rIsiT K (x :: xs) H2 Q) := by
  obtain ⟨S, h⟩ := hA
  refine ⟨by show 2 ≤ sizeLine; decide, fun p hp => ?_⟩
  have h2 := h.lay (o := .tup [V.ty T1, V.ty T2]) hp
  have hd := h1 g _ σ _ _ x h2 List.mem_cons_self
  refine ⟨x, p, [.ty T1, .ty T2], .type (tyD d), [.type T1, .type T2], isA T1 d || isA T2 d, rfl, upd_same, .cons (.ty T1) (.cons (.ty T2) .nil), (Dp.tyx hd), ?_, k _ _ ⟨_, h2.pop.push (.of rfl)⟩⟩
  refine kitAny_cons (kit_isA a1 hd) (fun e => ?_) (fun e => by rw [e]; rfl)
  refine kitAny_cons (kit_isA a2 hd) (fun e2 => ?_) (fun e2 => by rw [e2, Bool.or_true])
  rw [e, e2]
  rfl
theorem ev_isiT {ta : TE} {T1 T2 : String} {d : PyData} (a1 : AskT T1) (a2 : AskT T2) (he : EV K Γ ta t) (h1 : DpT K Γ t d) : EV K Γ (tCB (rIsiT K) (tCons ta (tCons (tTup (tCons (tC (.ty T1)) (tCons (tC (.ty T2)) tNil))) tNil))) (.dat (eB (isA T1 d || isA T2 d))) :=
  fun g σ τ H Q hA k => he g σ τ H _ hA fun x H1 hA1 => f_isiT a1 a2 h1 hA1 k

/-! ### a datum of any kind, asked -/
def intD : PyData → R Int
  | .int i => .nx i
  | _ => .stuck
def lenD : PyData → R Int
  | .list xs => .nx (xs.length : Int)
  | .tuple xs => .nx (xs.length : Int)
  | _ => .stuck
def itemsD : PyData → R (List PyData)
  | .list xs => .nx xs
  | .tuple xs => .nx xs
  | _ => .stuck
def atD (d : PyData) (i : Int) : R PyData := bindR (itemsD d) fun xs => idx xs i
theorem hds_eD {S : Hp} : ∀ {vs : List V} {ds : List PyData}, DpAll K S vs ds → Hds K S (ds.map eD) vs
  | _, _, .nil => .nil
  | _, _, .cons h1 h2 => .cons (.of h1) (hds_eD h2)
theorem eD_list {ds : List PyData} {v : V} {S : Hp} (h : Hd K (eD (.list ds)) v S) : Hd K (eL eD ds) v S := by
  obtain ⟨S0, e, q⟩ := h
  have q : Dp K S0 v (.list ds) := q
  cases q with
  | lst hs ha => exact ⟨S0, e, _, _, rfl, hs, hds_eD ha⟩
theorem eD_tup {ds : List PyData} {v : V} {S : Hp} (h : Hd K (eD (.tuple ds)) v S) : Hd K (eT eD ds) v S := by
  obtain ⟨S0, e, q⟩ := h
  have q : Dp K S0 v (.tuple ds) := q
  cases q with
  | tup hs ha => exact ⟨S0, e, _, _, rfl, hs, hds_eD ha⟩
theorem eD_int {i : Int} {v : V} {S : Hp} (h : Hd K (eD (.int i)) v S) : Hd K (eI i) v S := by
  obtain ⟨S0, e, q⟩ := h
  have q : Dp K S0 v (.int i) := q
  cases q
  exact .of rfl
section
variable {ρ lam : Type} {g : Gh} {σ : St} {τ : List (V × Tm)} {H : Hp} {v : V} {P : Prop} {N : α → Prop} {T : ρ → Prop} {B C : lam → Prop} {E : Er → Prop}
/-- the datum on top is an int -/
theorem f_int {d : PyData} {f : Int → O ρ lam α} (hA : At K g Γ σ ((v, .dat (eD d)) :: τ) H) (hm : Out (bindR (intD d) f) N T B C E) (k : ∀ i, At K g Γ σ ((v, .dat (eI i)) :: τ) H → Out (f i) N T B C E → P) : P := by
  cases d with
  | int i => exact k i (hA.box fun v S q => eD_int q) hm
  | _ => exact hm.elim
/-- .. a list or tuple -/
theorem f_items {d : PyData} {f : List PyData → O ρ lam α} (hA : At K g Γ σ ((v, .dat (eD d)) :: τ) H) (hm : Out (bindR (itemsD d) f) N T B C E) (k : ∀ xs, (At K g Γ σ ((v, .dat (eL eD xs)) :: τ) H ∨ At K g Γ σ ((v, .dat (eT eD xs)) :: τ) H) → Out (f xs) N T B C E → P) : P := by
  cases d with
  | list xs => exact k xs (.inl (hA.box fun v S q => eD_list q)) hm
  | tuple xs => exact k xs (.inr (hA.box fun v S q => eD_tup q)) hm
  | _ => exact hm.elim
end
theorem o1_lenD {d : PyData} : O1M K Γ (fun x => rLen K [x]) (.dat (eD d)) (lenD d) (fun i => .dat (eI i)) := fun g σ τ H x Q E hA hm => by
  cases d with
  | list xs =>
    have := o1_lenT (K := K) (Γ := Γ) (t := .dat (eL eD xs)) xs eD (.l .dat)
    exact this g σ τ H x Q (hA.box fun v S q => eD_list q) hm
  | tuple xs =>
    have := o1_lenT (K := K) (Γ := Γ) (t := .dat (eT eD xs)) xs eD .t
    exact this g σ τ H x Q (hA.box fun v S q => eD_tup q) hm
  | _ => exact hm.elim
/-- d[i] of a list or tuple -/
def rIxQ (K : PySem.W.Frag) : R2 := fun x y H Q => rIxL K x y H Q ∨ rIxT K x y H Q
theorem ix_q {X : Cx} : IxR X (rIxQ X.K) := ix_list.or ix_tup
theorem o2_atD {d : PyData} {i : Int} : O2M K Γ (rIxQ K) (.dat (eD d)) (.dat (eI i)) (atD d i) (fun a => .dat (eD a)) := fun g σ τ H x y Q E hA hm => by
  obtain ⟨S, h⟩ := hA
  cases d with
  | list xs =>
    have h2 : At K g Γ σ ((y, .dat (eI i)) :: (x, .dat (eL eD xs)) :: τ) H := ⟨S, (h.pop.pop.push (eD_list h.pop.top)).push h.top⟩
    exact .inl (o2_idxL (K := K) (Γ := Γ) .dat g σ τ H x y Q E h2 hm)
  | tuple xs =>
    have h2 : At K g Γ σ ((y, .dat (eI i)) :: (x, .dat (eT eD xs)) :: τ) H := ⟨S, (h.pop.pop.push (eD_tup h.pop.top)).push h.top⟩
    exact .inr (o2_idxT (K := K) (Γ := Γ) g σ τ H x y Q E h2 hm)
  | _ => exact hm.elim
/-- a loop over a list or tuple -/
def iSeq (K : PySem.W.Frag) (te : TE) : TI := fun σ H Rk => iList K te σ H Rk ∨ iTup K te σ H Rk
theorem pi_seq {X : Cx} {tg l : Expr} {te : TE} (h : PE X l te) : PI X tg l (iSeq X.K te) := ⟨fun pins s σ H Rk I hw => by
  rcases hw with hw | hw
  · exact (pi_list h).run pins s σ H Rk I hw
  · exact (pi_tup h).run pins s σ H Rk I hw⟩
end
end Gv

set_option Elab.async false
set_option linter.all false
set_option maxRecDepth 100000
set_option maxHeartbeats 2000000
/-! Gv: joins, loops over what is told only on the way, unpacking -/
namespace Gv
open PySem L2
theorem bj_assoc {K : PySem.W.Frag} {ρ lam α : Type} {X : Fx ρ} {G : List (Option Tm)} {a b c : TS} {m : O ρ lam α} {n : α → List (Option Tm)} {bb cc : lam → List (Option Tm)} (h : BJ K X G (tSeq a (tSeq b c)) m n bb cc) : BJ K X G (tSeq (tSeq a b) c) m n bb cc := h
section
variable {K : PySem.W.Frag} {ρ lam α β γ : Type} {X : Fx ρ} {Γ : List (Option Tm)} {g : Gh} {H : Hp} {σ : St} {τ : List (V × Tm)} {v x y : V} {t u z : Tm} {i : Nat} {ta tb tc te : TE} {r r' : R2} {Q : VK} {N : α → Prop} {T : ρ → Prop} {B C : lam → Prop} {E : Er → Prop}
/-! ### steps -/
theorem x_chain (h : ta σ H fun x H1 => tb σ H1 fun y H2 => r x y H2 fun z H3 => ∃ k, z = .bl k ∧ (if k = true then tc σ H3 fun w H4 => r' y w H4 Q else Q (.bl false) H3)) : tChain r r' ta tb tc σ H Q := h
theorem f_chain {a b c : Int} {f f' : Int → Int → Bool} (h3 : EV K Γ tc (.dat (eI c))) (hA : At K g Γ σ ((y, .dat (eI b)) :: (x, .dat (eI a)) :: τ) H) (k : ∀ v H', At K g Γ σ ((v, .dat (eB (f a b && f' b c))) :: τ) H' → Q v H') :
    rI0 (fun i j => .bl (f i j)) x y H fun z H3 => ∃ k, z = .bl k ∧ (if k = true then tc σ H3 fun w H4 => rI0 (fun i j => .bl (f' i j)) y w H4 Q else Q (.bl false) H3) := by
  obtain ⟨S, hS⟩ := hA
  refine ⟨a, b, hS.pop.top.i, hS.top.i, f a b, rfl, ?_⟩
  cases e : f a b with
  | true =>
    rw [if_pos rfl]
    refine h3 g σ _ H _ ⟨S, hS⟩ fun w H3 ⟨S3, hA3⟩ => ⟨b, c, hA3.pop.top.i, hA3.top.i, ?_⟩
    refine k _ H3 ⟨S3, hA3.pop.pop.pop.push (.of ?_)⟩
    show V.bl _ = V.bl _
    rw [e, Bool.true_and]
  | false =>
    rw [if_neg Bool.false_ne_true]
    exact k _ H ⟨S, hS.pop.pop.push (.of (by show V.bl _ = V.bl _; rw [e, Bool.false_and]))⟩
theorem f_int1 {d : PyData} {f : Int → O ρ lam α} {P : Prop} {w : V} {s : Tm} (hA : At K g Γ σ ((w, s) :: (v, .dat (eD d)) :: τ) H) (hm : Out (bindR (intD d) f) N T B C E) (k : ∀ i, At K g Γ σ ((w, s) :: (v, .dat (eI i)) :: τ) H → Out (f i) N T B C E → P) : P := by
  cases d with
  | int i =>
    refine k i ?_ hm
    obtain ⟨S, h⟩ := hA
    refine ⟨S, ?_⟩
    have p : ((w, s) :: (v, Tm.dat (eD (PyData.int i))) :: τ).Perm ((v, Tm.dat (eD (PyData.int i))) :: (w, s) :: τ) := .swap _ _ _
    have h2 := h.perm p
    exact (h2.pop.push (eD_int h2.top)).perm (.swap _ _ _)
  | _ => exact hm.elim
theorem x_cbT {rr : List V → Hp → VK → Prop} {tl : TA} (h : ta σ H fun x H1 => tl σ H1 fun xs H2 => rr (x :: xs) H2 Q) : tCB rr (tCons ta tl) σ H Q := h
theorem x_ifB {u w : TS} {D : Ends} {tc : TT} (h : tc σ H fun b H1 => if b = true then u D σ H1 else w D σ H1) : tIfS tc u w D σ H := h
theorem x_xfm {a Ca : Addr} {d : Option Addr} {x : Er} {cn f : Str} {EC : Str → Addr} {F : PyData → O ρ lam α} (hC : EC cn = Ca) (hg : Γ[i]? = some (some (.dat (eX a d x)))) (hA : At K g Γ σ τ H)
    (hm : Out (bindR (fldR x cn f) F) N T B C E) (k : ∀ y v H', At K g Γ σ ((v, .dat (eD y)) :: τ) H' → Out (F y) N T B C E → Q v H') : tXf a (.ref (EC x.c)) d Ca f (tVar i) σ H Q :=
  x_xf hC hg hA (hm.bindR.imp (fun y q v H' h' => k y v H' h' q) fun _ q => q)
theorem f_joinV {te : TE} {m : O ρ lam γ} {f : γ → O ρ lam α} (Gj : γ → List (Option Tm)) (zj : γ → Tm) (hA0 : At K g Γ σ τ H) (hm : Out (m.bind f) N T B C E) (h : Out m (fun c => ∀ v H', At K g (Gj c) σ ((v, zj c) :: τ) H' → Q v H') T B C E → te σ H Q)
    (k : ∀ c v H', At K g (Gj c) σ ((v, zj c) :: τ) H' → Out (f c) N T B C E → Q v H') : te σ H Q := h (hm.bind.imp (fun c q v H' h' => k c v H' h' q) (fun _ q => q) (fun _ q => q) (fun _ q => q) fun _ q => q)
theorem f_joinT {tt : TT} {m : O ρ lam γ} {f : γ → O ρ lam α} {Q : Bool → Hp → Prop} (Gj : γ → List (Option Tm)) (bj : γ → Bool) (hA0 : At K g Γ σ τ H) (hm : Out (m.bind f) N T B C E) (h : Out m (fun c => ∀ H', At K g (Gj c) σ τ H' → Q (bj c) H') T B C E → tt σ H Q)
    (k : ∀ c H', At K g (Gj c) σ τ H' → Out (f c) N T B C E → Q (bj c) H') : tt σ H Q := h (hm.bind.imp (fun c q H' h' => k c H' h' q) (fun _ q => q) (fun _ q => q) (fun _ q => q) fun _ q => q)
theorem f_boolT {b : Bool} {P : Bool → Hp → Prop} (hA : At K g Γ σ ((v, .dat (eB b)) :: τ) H) (k : At K g Γ σ τ H → P b H) : ∃ c, v = .bl c ∧ P c H := f_tst hA k
theorem o2_isNN {v : Unit} : O2 K Γ rIsN (.dat (eU v)) (.dat eN) (.dat (eB true)) :=
  At.scal2 (fun S v w h1 h2 H Q k => ⟨h2.n, by rw [show v = V.non from Hd.n h1]; exact k⟩) fun _ => rfl
/-! ### more built-ins -/
def gcdI (a b : Int) : Int := ((Nat.gcd a.natAbs b.natAbs : Nat) : Int)
theorem o2_gcd {a b : Int} : O2 K Γ (fun x y => rGcd [x, y]) (.dat (eI a)) (.dat (eI b)) (.dat (eI (gcdI a b))) :=
  At.scal2 (fun S v w h1 h2 H Q k => ⟨a, b, by rw [h1.i, h2.i], k⟩) fun _ => rfl
theorem hds_ints {S : Hp} : ∀ {xs : List Int} {vs : List V}, Hds K S (xs.map eI) vs → vs = xs.map V.int
  | [], _, .nil => rfl
  | x :: xs, _, .cons r t => by rw [show _ = V.int x from r.i, hds_ints t]; rfl
theorem hds_bls {S : Hp} : ∀ {xs : List Bool} {vs : List V}, Hds K S (xs.map eB) vs → vs = xs.map V.bl
  | [], _, .nil => rfl
  | x :: xs, _, .cons r t => by rw [show _ = V.bl x from r.b, hds_bls t]; rfl
theorem o1_sum {xs : List Int} (hl : IsL Γ t (xs.map eI)) : O1 K Γ (fun x => rSum K [x]) t (.dat (eI xs.sum)) := fun g σ τ H x Q ⟨S, h⟩ k => by
  obtain ⟨a, vs, rfl, h2, h3⟩ := h.isL List.mem_cons_self hl
  rw [hds_ints h3] at h2
  exact ⟨a, xs, rfl, h2, k _ H ⟨S, h.pop.push (.of rfl)⟩⟩
theorem o1_all {xs : List Bool} (hl : IsL Γ t (xs.map eB)) : O1 K Γ (fun x => rAll K [x]) t (.dat (eB (xs.all id))) := fun g σ τ H x Q ⟨S, h⟩ k => by
  obtain ⟨a, vs, rfl, h2, h3⟩ := h.isL List.mem_cons_self hl
  rw [hds_bls h3] at h2
  exact ⟨a, xs, rfl, h2, k _ H ⟨S, h.pop.push (.of rfl)⟩⟩
theorem o1_any {xs : List Bool} (hl : IsL Γ t (xs.map eB)) : O1 K Γ (fun x => rAny K [x]) t (.dat (eB (xs.any id))) := fun g σ τ H x Q ⟨S, h⟩ k => by
  obtain ⟨a, vs, rfl, h2, h3⟩ := h.isL List.mem_cons_self hl
  rw [hds_bls h3] at h2
  exact ⟨a, xs, rfl, h2, k _ H ⟨S, h.pop.push (.of rfl)⟩⟩
/-! ### tuple * n -/
def repR {α : Type} (xs : List α) (k : Int) : R (List α) := gd (!xs.isEmpty && decide (2 ≤ k) && decide (k ≤ 1000) && decide (xs.length ≤ 1000)) (List.replicate k.toNat xs).flatten
theorem hds_rep {S : Hp} {ps : List VP} {vs : List V} (d : Hds K S ps vs) : ∀ n : Nat, Hds K S (List.replicate n ps).flatten (List.replicate n vs).flatten
  | 0 => .nil
  | n + 1 => by
    rw [List.replicate_succ, List.replicate_succ, List.flatten_cons, List.flatten_cons]
    exact d.append (hds_rep d n)
theorem rep_map (e : β → VP) (xs : List β) (n : Nat) : (List.replicate n xs).flatten.map e = (List.replicate n (xs.map e)).flatten := by
  rw [List.map_flatten, List.map_replicate]
theorem o2_repT {xs : List β} {e : β → VP} {k : Int} : O2M K Γ (rRepT K) (.dat (eT e xs)) (.dat (eI k)) (repR xs k) (fun c => .dat (eT e c)) := At.part2 fun hc => fun g σ τ H x y Q ⟨S, h⟩ kk => by
  simp only [Bool.and_eq_true, decide_eq_true_eq, Bool.not_eq_true'] at hc
  obtain ⟨⟨⟨h0, h1⟩, h2⟩, h3⟩ := hc
  obtain ⟨a, vs, rfl, k2, k3⟩ := Hd.t h.pop.top
  have hl : vs.length = xs.length := by rw [k3.len, List.length_map]
  refine ⟨a, k, vs, rfl, h.top.i, same_t h.base.sh k2, fun e0 => ?_, h1, h2, by omega, fun p hn => kk _ _ (h.pop.pop.newT hn ?_)⟩
  · subst e0
    cases xs with
    | nil => cases h0
    | cons _ _ => simp at hl
  · rw [rep_map]
    exact hds_rep k3 k.toNat
end
end Gv

set_option Elab.async false
set_option linter.all false
set_option maxRecDepth 100000
set_option maxHeartbeats 2000000
/-! Gv: what is walked, told on the way; unpacking of data -/
namespace Gv
open PySem L2
/-- the walk of xs at a place gives what Rk asks -/
def WK (K : PySem.W.Frag) (g : Gh) (Γ : List (Option Tm)) (σ : St) (τ : List (V × Tm)) {β : Type} (xs : List β) (e : β → VP) (Rk : It → Hp → Prop) : Prop :=
  ∀ (J : It) (Gd : Hp → Prop) (Y : Nat → Hp → V → Hp → Prop) (S1 H' : Hp), Walk J xs.length Gd Y → Same g.S0 S1 → (∀ b, g.F b ≠ none → g.S0 b = none → S1 b = none) → At K ⟨S1, g.F⟩ Γ σ τ H' →
      (∀ S2 H2, Base ⟨S1, g.F⟩ S2 H2 → Gd H2) →
      (∀ (i : Nat) (b : β) (x : V) (H1 H2 : Hp) (Γ' : List (Option Tm)) (σ' : St) (τ' : List (V × Tm)), xs[i]? = some b → Y i H1 x H2 → At K ⟨S1, g.F⟩ Γ' σ' τ' H1 → At K ⟨S1, g.F⟩ Γ' σ' ((x, .dat (e b)) :: τ') H2) → Rk J H'
section
variable {K : PySem.W.Frag} {ρ lam α β γ : Type} {X : Fx ρ} {Γ : List (Option Tm)} {g : Gh} {H : Hp} {σ : St} {τ : List (V × Tm)} {v x y : V} {t u z : Tm} {i : Nat} {ta tb tc te : TE} {r r' : R2} {Q : VK} {N : α → Prop} {T : ρ → Prop} {B C : lam → Prop} {E : Er → Prop}
  {e : β → VP} {xs : List β} {Rk : It → Hp → Prop}
theorem wk_list (hA : At K g Γ σ ((v, .dat (eL e xs)) :: τ) H) (hm : WK K g Γ σ τ xs e Rk) : ∃ a, v = .ref a ∧ (∃ xs, SqL K H a xs) ∧ Rk (Itl K a) H := by
  obtain ⟨S, h⟩ := hA
  obtain ⟨a, vs, rfl, h2, h3⟩ := Hd.l h.top
  have hl : vs.length = xs.length := by rw [h3.len, List.length_map]
  refine ⟨a, rfl, ⟨vs, h.base.sh.seq h2⟩, hm (Itl K a) (fun H => SqL K H a vs) (YAt vs) S H (by rw [← hl]; exact walk_list) h.base.s0 h.base.fs ⟨S, h.pop.reS⟩ (fun S2 H2 B => B.reS.seq h2) fun i b x H1 H2 Γ' σ' τ' hb hy ⟨S2, hA2⟩ => ?_⟩
  obtain ⟨rfl, hx⟩ := hy
  obtain ⟨w, w1, w2⟩ := h3.get (show (xs.map e)[i]? = some (e b) by rw [List.getElem?_map, hb]; rfl)
  rw [hx] at w1
  cases w1
  exact ⟨S2, hA2.push (w2.mono hA2.base.s0)⟩
theorem wk_tup (hA : At K g Γ σ ((v, .dat (eT e xs)) :: τ) H) (hm : WK K g Γ σ τ xs e Rk) : ∃ a, v = .ref a ∧ (∃ xs, SqT K H a xs) ∧ Rk (Itt K a) H := by
  obtain ⟨S, h⟩ := hA
  obtain ⟨a, vs, rfl, h2, h3⟩ := Hd.t h.top
  have hl : vs.length = xs.length := by rw [h3.len, List.length_map]
  refine ⟨a, rfl, ⟨vs, same_t h.base.sh h2⟩, hm (Itt K a) (fun H => SqT K H a vs) (YAt vs) S H (by rw [← hl]; exact walk_tup) h.base.s0 h.base.fs ⟨S, h.pop.reS⟩ (fun S2 H2 B => same_t B.reS h2) fun i b x H1 H2 Γ' σ' τ' hb hy ⟨S2, hA2⟩ => ?_⟩
  obtain ⟨rfl, hx⟩ := hy
  obtain ⟨w, w1, w2⟩ := h3.get (show (xs.map e)[i]? = some (e b) by rw [List.getElem?_map, hb]; rfl)
  rw [hx] at w1
  cases w1
  exact ⟨S2, hA2.push (w2.mono hA2.base.s0)⟩
theorem wk_rng {a b : Int} (hA : At K g Γ σ τ H) (hm : WK K g Γ σ τ (rangeL a b) eI Rk) : Rk (Itr a (b - a).toNat) H := by
  obtain ⟨S, h⟩ := hA
  refine hm (Itr a (b - a).toNat) (fun _ => True) (YFn fun i => .int (a + i)) S H (by rw [rangeL_len]; exact walk_range) h.base.s0 h.base.fs ⟨S, h.reS⟩ (fun _ _ _ => True.intro) fun i x v H1 H2 Γ' σ' τ' hx hy hA2 => ?_
  obtain ⟨rfl, rfl⟩ := hy
  exact hA2.scal fun _ => by rw [rangeL_get hx]; rfl
theorem f_rng1 {b : Int} {F : List Int → O ρ lam α} (hA : At K g Γ σ ((v, .dat (eI b)) :: τ) H) (hm : Out (bindR (rngR 0 b) F) N T B C E) (k : Out (F (rangeL 0 b)) N T B C E → WK K g Γ σ τ (rangeL 0 b) eI Rk) :
    ∃ j : Int, [v] = [V.int j] ∧ -(2 ^ 62) ≤ j ∧ j < 2 ^ 62 ∧ Rk (Itr 0 j.toNat) H := by
  obtain ⟨hc, q⟩ := rngR_gd hm.bindR
  simp only [Bool.and_eq_true, decide_eq_true_eq] at hc
  obtain ⟨S, h⟩ := id hA
  refine ⟨b, by rw [show v = V.int b from Hd.i h.top], by omega, by omega, ?_⟩
  have := wk_rng (a := 0) (b := b) hA.pop (k q)
  rwa [Int.sub_zero] at this
theorem f_rng2 {a b : Int} {F : List Int → O ρ lam α} (hA : At K g Γ σ ((y, .dat (eI b)) :: (x, .dat (eI a)) :: τ) H) (hm : Out (bindR (rngR a b) F) N T B C E) (k : Out (F (rangeL a b)) N T B C E → WK K g Γ σ τ (rangeL a b) eI Rk) :
    ∃ i j : Int, [x, y] = [V.int i, V.int j] ∧ (-(2 ^ 62) ≤ i ∧ i < 2 ^ 62 ∧ -(2 ^ 62) ≤ j ∧ j < 2 ^ 62) ∧ Rk (Itr i (j - i).toNat) H := by
  obtain ⟨hc, q⟩ := rngR_gd hm.bindR
  simp only [Bool.and_eq_true, decide_eq_true_eq] at hc
  obtain ⟨S, h⟩ := id hA
  exact ⟨a, b, by rw [show y = V.int b from Hd.i h.top, show x = V.int a from Hd.i h.pop.top], by omega, wk_rng (a := a) (b := b) hA.pop.pop (k q)⟩
/-! ### a datum that is walked: list or tuple -/
def iSeqV (K : PySem.W.Frag) (tl : TE) : TI := fun σ H R => tl σ H fun v H1 => (∃ a, v = .ref a ∧ (∃ xs, SqL K H1 a xs) ∧ R (Itl K a) H1) ∨ (∃ a, v = .ref a ∧ (∃ xs, SqT K H1 a xs) ∧ R (Itt K a) H1)
theorem wk_seq {d : PyData} {F : List PyData → O ρ lam α} (hA : At K g Γ σ ((v, .dat (eD d)) :: τ) H) (hm : Out (bindR (itemsD d) F) N T B C E) (k : ∀ xs, Out (F xs) N T B C E → WK K g Γ σ τ xs eD Rk) :
    (∃ a, v = .ref a ∧ (∃ xs, SqL K H a xs) ∧ Rk (Itl K a) H) ∨ (∃ a, v = .ref a ∧ (∃ xs, SqT K H a xs) ∧ Rk (Itt K a) H) :=
  f_items hA hm fun xs h hm => h.elim (fun h => .inl (wk_list h (k xs hm))) fun h => .inr (wk_tup h (k xs hm))
section
variable {Xc : Cx}
open PyProof.Rows in
theorem pi_seqV {tg l : Expr} {tl : TE} (hl : PE Xc l tl) : PI Xc tg l (iSeqV Xc.K tl) := by
  refine ⟨fun pins s σ H R I h => thn (hl.run pins s σ H _ I h) fun w s1 hw => ?_⟩
  obtain ⟨x, H1, I1, r1, q1⟩ := hw
  have fresh : ∀ b ∈ [s1.heap.objs.size], FpOk Xc pins H1 b := fun b hb => by
    have eb : b = s1.heap.objs.size := by simpa using hb
    rw [eb]
    exact I1.fpOk (Nat.le_refl _) (I1.hok.fresh (Nat.le_refl _))
  rcases q1 with ⟨a, ea, ⟨ws, hs⟩, q⟩ | ⟨a, ea, ⟨ws, hs⟩, q⟩
  · rw [ea] at r1
    cases r1
    obtain ⟨its, _, pl, _⟩ := I1.list hs
    exact wpAny_pyIter_list pl.isList ⟨s1.heap.objs.size, [s1.heap.objs.size], _, _, H1, rfl, I1.kept (t' := s1.toks) fun b o hb => Heap.get?_push_of_some _ hb, turn_list a _, ⟨_, Heap.get?_push_size _ rfl, rfl, rfl⟩, fresh, q⟩
  · rw [ea] at r1
    cases r1
    obtain ⟨its, _, pt, _⟩ := I1.tuple hs
    exact wpAny_pyIter_tuple pt ⟨s1.heap.objs.size, [s1.heap.objs.size], _, _, H1, rfl, I1.kept (t' := s1.toks) fun b o hb => Heap.get?_push_of_some _ hb, turn_tuple a _, ⟨_, Heap.get?_push_size _ rfl, rfl, rfl⟩, fresh, q⟩
end
/-! ### for -/
def FR (tg : TG) (tb u : TS) (D : Ends) (σ : St) : It → Hp → Prop := fun J H1 => ∃ W : Nat → Nat → St → Hp → Prop, (∃ m, W 0 m σ H1) ∧ ∀ i m σ H, W i m σ H →
  (J.stop i H ∧ u D σ H) ∨ (J.go i H ∧ ∃ N : St → Hp → Prop, (∀ σ' H', N σ' H' → ∃ m', m' < m ∧ W (i + 1) m' σ' H') ∧ ∀ x H', J.yld i H x H' → tg x σ H' fun σ2 H2 => tb { D with nx := N, ct := N, bk := u D } σ2 H2)
variable {tg : TG} {tb u : TS} {D : Ends} {wi : TI} {tl : TE}
theorem x_for (h : wi σ H (FR tg tb u D σ)) : tSeq (tFor wi tg tb) u D σ H := h
theorem x_forL (h : tl σ H fun v H1 => ∃ a, v = .ref a ∧ (∃ xs, SqL K H1 a xs) ∧ FR tg tb u D σ (Itl K a) H1) : tSeq (tFor (iList K tl) tg tb) u D σ H := h
theorem x_forT (h : tl σ H fun v H1 => ∃ a, v = .ref a ∧ (∃ xs, SqT K H1 a xs) ∧ FR tg tb u D σ (Itt K a) H1) : tSeq (tFor (iTup K tl) tg tb) u D σ H := h
theorem x_forD (h : tl σ H fun v H1 => (∃ a, v = .ref a ∧ (∃ xs, SqL K H1 a xs) ∧ FR tg tb u D σ (Itl K a) H1) ∨ (∃ a, v = .ref a ∧ (∃ xs, SqT K H1 a xs) ∧ FR tg tb u D σ (Itt K a) H1)) : tSeq (tFor (iSeqV K tl) tg tb) u D σ H := h
theorem x_forR1 (h : tl σ H fun v H1 => ∃ j : Int, [v] = [V.int j] ∧ -(2 ^ 62) ≤ j ∧ j < 2 ^ 62 ∧ FR tg tb u D σ (Itr 0 j.toNat) H1) : tSeq (tFor (iRng1 (tCons tl tNil)) tg tb) u D σ H := h
theorem x_forR2 (h : ta σ H fun x H1 => tl σ H1 fun y H2 => ∃ i j : Int, [x, y] = [V.int i, V.int j] ∧ (-(2 ^ 62) ≤ i ∧ i < 2 ^ 62 ∧ -(2 ^ 62) ≤ j ∧ j < 2 ^ 62) ∧ FR tg tb u D σ (Itr i (j - i).toNat) H2) : tSeq (tFor (iRng2 (tCons ta (tCons tl tNil))) tg tb) u D σ H := h
/-- a for whose items are told; hb: the target and the body -/
theorem f_for {sT : Type} {f : sT → β → O ρ sT sT} {s0 : sT} {k : sT → O ρ lam α} {n : α → List (Option Tm)} {b c : lam → List (Option Tm)} (Gl : sT → List (Option Tm)) (h0 : Le (Gl s0) Γ)
    (hm : Out ((forO f xs s0).bind k) (NxW K g n D.nx) (RtW K g X D.rt) (NxW K g b D.bk) (NxW K g c D.ct) (ErW K g X))
    (hb : ∀ s y (g : Gh) (σ : St) (H : Hp) (D : Ends) (x : V), At K g (Gl s) σ [(x, .dat (e y))] H → Out (f s y) (NxW K g Gl D.nx) (RtW K g X D.rt) (NxW K g Gl D.bk) (NxW K g Gl D.ct) (ErW K g X) → tg x σ H (tb D))
    (hr : ∀ s, BJ K X (Gl s) u (k s) n b c) : WK K g Γ σ [] xs e (FR tg tb u D σ) := fun J Gd Y S1 H' w es ef hA' hG hY => by
  have q2 := hm.bind
  refine for_it (D := { D with nx := u D }) w (fun i σ H => ∃ s, At K ⟨S1, g.F⟩ (Gl s) σ [] H ∧ Out (forO f (xs.drop i) s : O ρ lam sT) (fun s' => ∀ σ' H', At K ⟨S1, g.F⟩ (Gl s') σ' [] H' → u D σ' H') (RtW K ⟨S1, g.F⟩ X D.rt) (fun l => NxW K g b D.bk l) (fun l => NxW K g c D.ct l) (ErW K ⟨S1, g.F⟩ X))
    ⟨s0, hA'.weak h0, ?_⟩ (fun i σ H _ ⟨s, ⟨S2, h2⟩, _⟩ => hG S2 H h2.base) ?_ ?_
  · rw [List.drop_zero]
    refine q2.imp (fun s' q3 σ' H' h' => hr s' g σ' H' D (h'.unS es ef) q3) (fun r q3 v H' σ' h' => q3 v H' σ' (h'.unS es ef)) (fun _ q3 => q3) (fun _ q3 => q3) (fun x q3 => q3.unS es ef)
  · rintro i x σ H H' hi ⟨s, hA2, q3⟩ hy
    have hx : xs[i]? = some xs[i] := List.getElem?_eq_getElem hi
    rw [List.drop_eq_getElem_cons hi] at q3
    have q4 := forO_out q3
    exact hb s xs[i] ⟨S1, g.F⟩ σ H' _ x (hY i _ x H H' _ _ _ hx hy hA2) (q4.imp (fun s' q5 σ' H' h' => ⟨s', h', q5⟩) (fun _ q5 => q5) (fun s' q5 σ' H' h' => q5 σ' H' h') (fun s' q5 σ' H' h' => ⟨s', h', q5⟩) fun _ q5 => q5)
  · rintro σ H ⟨s, hA2, q3⟩
    rw [List.drop_length] at q3
    exact q3 σ H hA2
/-- a target whose parts are told -/
theorem hb_of {sT : Type} {f : sT → β → O ρ sT sT} {js : List Nat} {ps : β → List VP} {Gl : sT → List (Option Tm)} (ht : ∀ b, TJ K tg (e b) js (ps b)) (hj : ∀ s, ∀ j ∈ js, j < (Gl s).length)
    (hb : ∀ s b, BJ K X (setG (Gl s) js (ps b)) tb (f s b) Gl Gl Gl) : ∀ s y (g : Gh) (σ : St) (H : Hp) (D : Ends) (x : V), At K g (Gl s) σ [(x, .dat (e y))] H → Out (f s y) (NxW K g Gl D.nx) (RtW K g X D.rt) (NxW K g Gl D.bk) (NxW K g Gl D.ct) (ErW K g X) → tg x σ H (tb D) :=
  fun s y g σ H D x hA hm => (ht y).2 g (Gl s) σ [] H x _ (hj s) (fun y hy => (by cases hy)) hA fun vs H2 _ hA3 => hb s y g _ H2 _ hA3 hm
/-! ### a while's test that is no plain one -/
theorem cj_fwd {sT : Type} {tt : TT} {cn : sT → R (sT × Bool)} {Gl : sT → List (Option Tm)} (h : ∀ s g σ H (Q : Bool → Hp → Prop), At K g (Gl s) σ [] H → Out (cn s) (fun sb => ∀ H', At K g (Gl sb.1) σ [] H' → Q sb.2 H') (fun _ => True) (fun _ => True) (fun _ => True) (ErW K g X) → tt σ H Q) :
    ∀ s g σ H (Q : Bool → Hp → Prop), At K g (Gl s) σ [] H → OutR (cn s) (fun sb => ∀ H', At K g (Gl sb.1) σ [] H' → Q sb.2 H') (ErW K g X) → tt σ H Q := fun s g σ H Q hA hm => h s g σ H Q hA hm.out
/-! ### comprehensions -/
def LR (tg : TG) (tt : TT) (te : TE) (vs : List Nat) (σ : St) (Q : VK) : It → Hp → Prop := fun J H1 => ∀ D, H1 D = none → ∃ W : Nat → Nat → Hp → Prop, (∃ m, W 0 m (upd H1 D (.lst []))) ∧ ∀ i m H, W i m H →
  (J.stop i H ∧ Q (.ref D) H) ∨ (J.go i H ∧ ∃ Nx : Hp → Prop, (∀ H', Nx H' → ∃ m', m' < m ∧ W (i + 1) m' H') ∧ ∀ x H', J.yld i H x H' → tg x (wipe σ vs) H' fun σ2 H2 => wipe σ2 vs = wipe σ vs ∧ tt σ2 H2 fun b H3 =>
    if b = true then te σ2 H3 fun y H4 => ∃ acc, H4 D = some (.lst acc) ∧ acc.length < sizeLine ∧ Nx (upd H4 D (.lst (acc ++ [y]))) else Nx H3)
variable {tt : TT} {vs : List Nat}
theorem x_lc (h : wi σ H (LR tg tt te vs σ Q)) : tLc wi tg tt te vs σ H Q := h
theorem x_lcL (h : tl σ H fun v H1 => ∃ a, v = .ref a ∧ (∃ xs, SqL K H1 a xs) ∧ LR tg tt te vs σ Q (Itl K a) H1) : tLc (iList K tl) tg tt te vs σ H Q := h
theorem x_lcT (h : tl σ H fun v H1 => ∃ a, v = .ref a ∧ (∃ xs, SqT K H1 a xs) ∧ LR tg tt te vs σ Q (Itt K a) H1) : tLc (iTup K tl) tg tt te vs σ H Q := h
theorem x_lcD (h : tl σ H fun v H1 => (∃ a, v = .ref a ∧ (∃ xs, SqL K H1 a xs) ∧ LR tg tt te vs σ Q (Itl K a) H1) ∨ (∃ a, v = .ref a ∧ (∃ xs, SqT K H1 a xs) ∧ LR tg tt te vs σ Q (Itt K a) H1)) : tLc (iSeqV K tl) tg tt te vs σ H Q := h
theorem x_lcR1 (h : tl σ H fun v H1 => ∃ j : Int, [v] = [V.int j] ∧ -(2 ^ 62) ≤ j ∧ j < 2 ^ 62 ∧ LR tg tt te vs σ Q (Itr 0 j.toNat) H1) : tLc (iRng1 (tCons tl tNil)) tg tt te vs σ H Q := h
theorem x_lcR2 (h : ta σ H fun x H1 => tl σ H1 fun y H2 => ∃ i j : Int, [x, y] = [V.int i, V.int j] ∧ (-(2 ^ 62) ≤ i ∧ i < 2 ^ 62 ∧ -(2 ^ 62) ≤ j ∧ j < 2 ^ 62) ∧ LR tg tt te vs σ Q (Itr i (j - i).toNat) H2) : tLc (iRng2 (tCons ta (tCons tl tNil))) tg tt te vs σ H Q := h
theorem f_lcW {sT : Type} {js : List Nat} {ps : β → List VP} {enc : γ → VP} {f : sT → β → R (sT × Option γ)} {F : sT × List γ → O ρ lam α} (Gl : sT → List (Option Tm)) (s0 : sT) (ht : ∀ b, TJ K tg (e b) js (ps b)) (nd : js.Nodup)
    (hn : ∀ s, ∀ j ∈ js, (Gl s)[j]? = some none) (hv : ∀ s, ∀ j ∈ vs, (Gl s)[j]? = some none) (hsub : ∀ j ∈ js, j ∈ vs) (hl : LJ K Gl js ps enc tt te f)
    (hm : Out (bindR (lcR f xs s0 []) F) N T B C E) (k : ∀ r v H', At K g (Gl r.1) σ ((v, oL enc r.2) :: τ) H' → Out (F r) N T B C E → Q v H') : WK K g (Gl s0) σ τ xs e (LR tg tt te vs σ Q) := fun J Gd Y S1 H' w es ef hA' hG hY => by
  have hm2 : OutR (lcR f xs s0 []) (fun r => ∀ v H', At K g (Gl r.1) σ ((v, oL enc r.2) :: τ) H' → Q v H') E := hm.bindR.imp (fun r q v H' h' => k r v H' h' q) fun _ q => q
  have hi : ∀ Rk : It → Hp → Prop, Rk = LR tg tt te vs σ Q → Rk J H' := fun Rk eR => by
    subst eR
    have two : tLc (fun _ _ R => R J H') tg tt te vs σ H' Q := by
      show ∀ D, H' D = none → _
      intro D hD
      refine lc_it w (fun i H => ∃ s acc, At K ⟨S1, g.F⟩ (Gl s) σ ((.ref D, .own (some D) (.lst (acc.map enc))) :: τ) H ∧ OutR (lcR f (xs.drop i) s acc) (fun r => ∀ v H', At K g (Gl r.1) σ ((v, oL enc r.2) :: τ) H' → Q v H') E)
        ⟨s0, [], ?_, by rw [List.drop_zero]; exact hm2⟩ (fun i H _ ⟨s, acc, ⟨S2, h2⟩, _⟩ => hG S2 H h2.base) ?_ ?_
      · obtain ⟨S, h⟩ := hA'
        exact ⟨S, h.freshA (fun b z => (Option.some.inj z).symm) hD ⟨[], rfl, .nil⟩⟩
      · rintro i x H H' hi ⟨s, acc, hA2, q3⟩ hy
        have hx : xs[i]? = some xs[i] := List.getElem?_eq_getElem hi
        rw [List.drop_eq_getElem_cons hi] at q3
        have q4 := lcR_out q3
        have hA3 : At K ⟨S1, g.F⟩ (Gl s) (wipe σ vs) ((.ref D, .own (some D) (.lst (acc.map enc))) :: τ) H := by
          obtain ⟨S, h⟩ := hA2
          exact ⟨S, h.slots (fun j t ej => wipe_get fun z => by rw [hv s j z] at ej; cases ej) (by rw [wipe_length]; exact h.len)⟩
        have hal : ∀ y ∈ (V.ref D, Tm.own (some D) (.lst (acc.map enc))) :: τ, ∀ k, y.2 = Tm.als k → k ∉ js := fun y hy k ek hk => by
          obtain ⟨S, h⟩ := hA2
          obtain ⟨oa, c, q⟩ := h.al y hy k ek
          rw [hn s k hk] at q; cases q
        refine (ht xs[i]).2 ⟨S1, g.F⟩ (Gl s) (wipe σ vs) _ H' x _ (fun j hj => (List.getElem?_eq_some_iff.mp (hn s j hj)).1) hal (hY i _ x H H' _ _ _ hx hy hA3) fun ws H2 _ hA4 => ⟨wipe_set hsub, ?_⟩
        have back : ∀ {s' : sT} {τ' : List (V × Tm)} {H3 : Hp}, At K ⟨S1, g.F⟩ (setG (Gl s') js (ps xs[i])) (setS (wipe σ vs) js ws) τ' H3 → At K ⟨S1, g.F⟩ (Gl s') σ τ' H3 := fun {s' τ' H3} ⟨S, h⟩ => by
          have h5 := forget nd (hn s') h
          have hlen : (Gl s').length ≤ σ.length := by
            have := h5.len
            rw [setS_len, wipe_length] at this
            exact this
          exact ⟨S, h5.slots (fun j t ej => by
            have n1 : j ∉ js := fun z => by rw [hn s' j z] at ej; cases ej
            have n2 : j ∉ vs := fun z => by rw [hv s' j z] at ej; cases ej
            rw [setS_get n1, wipe_get n2]) hlen⟩
        have := hl s xs[i] ⟨S1, g.F⟩ (setS (wipe σ vs) js ws) _ H2 (fun o H4 => match o with
          | none => ∃ s acc, At K ⟨S1, g.F⟩ (Gl s) σ ((.ref D, .own (some D) (.lst (acc.map enc))) :: τ) H4 ∧ OutR (lcR f (xs.drop (i + 1)) s acc) (fun r => ∀ v H', At K g (Gl r.1) σ ((v, oL enc r.2) :: τ) H' → Q v H') E
          | some y => ∃ acc, H4 D = some (.lst acc) ∧ acc.length < sizeLine ∧ ∃ s acc', At K ⟨S1, g.F⟩ (Gl s) σ ((.ref D, .own (some D) (.lst (acc'.map enc))) :: τ) (upd H4 D (.lst (acc ++ [y]))) ∧ OutR (lcR f (xs.drop (i + 1)) s acc') (fun r => ∀ v H', At K g (Gl r.1) σ ((v, oL enc r.2) :: τ) H' → Q v H') E) hA4 (q4.imp (fun r q5 => ?_) fun _ q5 => q5)
        · exact this
        · obtain ⟨s1, o⟩ := r
          cases o with
          | none => exact fun H4 h4 => ⟨s1, acc, back h4, q5⟩
          | some y =>
            intro v H4 h4
            obtain ⟨q6, q7⟩ := q5
            obtain ⟨S, h5⟩ := back h4
            have hv5 : Hd K (enc y) v S := h5.top
            obtain ⟨a, o, e1, e2, _, _, e3, vs3, rfl, d3⟩ := h5.pop.top
            cases e1
            obtain ⟨o2, _, _, h6⟩ := h5.pop.writeT (c' := .lst ((acc ++ [y]).map enc)) (o' := .lst (vs3 ++ [v])) ⟨_, rfl, by rw [List.map_append]; exact d3.append (.cons hv5 .nil)⟩
            exact ⟨vs3, e3, by rw [d3.len, List.length_map]; exact lt_line q6, s1, acc ++ [y], ⟨S, h6⟩, q7⟩
      · rintro H ⟨s, acc, hA2, q3⟩
        rw [List.drop_length] at q3
        obtain ⟨S, h⟩ := hA2
        exact q3 (.ref D) H (At.unS ⟨S, h.oaNone⟩ es ef)
    exact two
  exact hi _ rfl
/-- what an item gives, told on the way -/
theorem lj_fwd {sT : Type} {js : List Nat} {ps : β → List VP} {enc : γ → VP} {f : sT → β → R (sT × Option γ)} {Gl : sT → List (Option Tm)}
    (h : ∀ s b g σ τ H (Q : VK) (Qn : Hp → Prop), At K g (setG (Gl s) js (ps b)) σ τ H → Out (f s b) (fun r => match r.2 with
      | none => ∀ H', At K g (setG (Gl r.1) js (ps b)) σ τ H' → Qn H'
      | some y => ∀ v H', At K g (setG (Gl r.1) js (ps b)) σ ((v, .dat (enc y)) :: τ) H' → Q v H') (fun _ => True) (fun _ => True) (fun _ => True) (fun _ => False) → tt σ H fun b H3 => if b = true then te σ H3 Q else Qn H3) : LJ K Gl js ps enc tt te f :=
  fun s b g σ τ H Q hA hm => h s b g σ τ H (fun y H4 => Q (some y) H4) (Q none) hA (hm.out.imp (fun r q => by
    cases e : r.2 with
    | none => rw [e] at q; exact q
    | some y => rw [e] at q; exact q) (fun _ q => q) (fun _ q => q) (fun _ q => q) fun _ q => q)
theorem x_yes {P : Hp → Prop} {Q' : Hp → Prop} (h : P H) : tYes σ H fun b H3 => if b = true then P H3 else Q' H3 := by
  show if true = true then P H else Q' H
  rw [if_pos rfl]
  exact h
/-! ### unpacking -/
/-- a list or a tuple of these -/
def eW (ps : List VP) : VP := fun K v S => rL ps K v S ∨ rT ps K v S
theorem eW_hd {S : Hp} {ps : List VP} (h : Hd K (eW ps) v S) : Hd K (rL ps) v S ∨ Hd K (rT ps) v S := by
  obtain ⟨S0, e, q⟩ := h
  exact q.elim (fun q => .inl ⟨S0, e, q⟩) fun q => .inr ⟨S0, e, q⟩
theorem eW_l {S : Hp} {ps : List VP} (h : Hd K (rL ps) v S) : Hd K (eW ps) v S := by
  obtain ⟨S0, e, q⟩ := h
  exact ⟨S0, e, .inl q⟩
theorem eW_t {S : Hp} {ps : List VP} (h : Hd K (rT ps) v S) : Hd K (eW ps) v S := by
  obtain ⟨S0, e, q⟩ := h
  exact ⟨S0, e, .inr q⟩
def unp2 (d : PyData) : R (PyData × PyData) := bindR (itemsD d) fun xs => match xs with
  | [a, b] => .nx (a, b)
  | _ => .stuck
def unp3 (d : PyData) : R (PyData × PyData × PyData) := bindR (itemsD d) fun xs => match xs with
  | [a, b, c] => .nx (a, b, c)
  | _ => .stuck
theorem unp3_out {d : PyData} {f : PyData × PyData × PyData → O ρ lam α} (h : Out (bindR (unp3 d) f) N T B C E) : ∃ a b c, (d = .list [a, b, c] ∨ d = .tuple [a, b, c]) ∧ Out (f (a, b, c)) N T B C E := by
  cases d with
  | list xs =>
    match xs, h with
    | [a, b, c], h => exact ⟨a, b, c, .inl rfl, h⟩
    | [], h => exact h.elim
    | [_], h => exact h.elim
    | [_, _], h => exact h.elim
    | _ :: _ :: _ :: _ :: _, h => exact h.elim
  | tuple xs =>
    match xs, h with
    | [a, b, c], h => exact ⟨a, b, c, .inr rfl, h⟩
    | [], h => exact h.elim
    | [_], h => exact h.elim
    | [_, _], h => exact h.elim
    | _ :: _ :: _ :: _ :: _, h => exact h.elim
  | _ => exact h.elim
theorem f_unp3 {d : PyData} {f : PyData × PyData × PyData → O ρ lam α} {P : Prop} (hA : At K g Γ σ ((v, .dat (eD d)) :: τ) H) (hm : Out (bindR (unp3 d) f) N T B C E) (k : ∀ q, At K g Γ σ ((v, .dat (eW [eD q.1, eD q.2.1, eD q.2.2])) :: τ) H → Out (f q) N T B C E → P) : P := by
  obtain ⟨a, b, c, h | h, q⟩ := unp3_out hm
  · subst h
    exact k (a, b, c) (hA.box fun v S q => eW_l (eD_list q)) q
  · subst h
    exact k (a, b, c) (hA.box fun v S q => eW_t (eD_tup q)) q
theorem hds_set {S : Hp} {p q : VP} {ps : List VP} : ∀ {ps : List VP} {vs : List V} (j : Nat), Hds K S ps vs → (∀ w, ps[j]? = some p → Hd K p w S → Hd K q w S) → ps[j]? = some p → Hds K S (ps.set j q) vs
  | _, _, 0, .cons r t, h, e => .cons (h _ e (by cases e; exact r)) t
  | _, _, j + 1, .cons r t, h, e => .cons r (hds_set (ps := ps) j t (fun w e' => h w (by simpa using e')) (by simpa using e))
theorem At.boxW {p q : VP} {ps : List VP} (j : Nat) (e : ps[j]? = some p) (hb : ∀ w S, Hd K p w S → Hd K q w S) (h : At K g Γ σ ((v, .dat (eW ps)) :: τ) H) : At K g Γ σ ((v, .dat (eW (ps.set j q))) :: τ) H := h.box fun v S z => by
  rcases eW_hd z with z | z
  · obtain ⟨a, vs, rfl, h2, h3⟩ := Hd.l z
    exact eW_l (.of ⟨a, vs, rfl, h2, hds_set (ps := ps) j h3 (fun w _ => hb w S) e⟩)
  · obtain ⟨a, vs, rfl, h2, h3⟩ := Hd.t z
    exact eW_t (.of ⟨a, vs, rfl, h2, hds_set (ps := ps) j h3 (fun w _ => hb w S) e⟩)
/-- the j-th is an int -/
theorem f_wint (j : Nat) {d : PyData} {ps : List VP} {f : Int → O ρ lam α} {P : Prop} (e : ps[j]? = some (eD d)) (hA : At K g Γ σ ((v, .dat (eW ps)) :: τ) H) (hm : Out (bindR (intD d) f) N T B C E) (k : ∀ i, At K g Γ σ ((v, .dat (eW (ps.set j (eI i)))) :: τ) H → Out (f i) N T B C E → P) : P := by
  cases d with
  | int i => exact k i (hA.boxW j e fun w S q => eD_int q) hm
  | _ => exact hm.elim
def gSeq (K : PySem.W.Frag) (n : Nat) (t : TGs) : TG := fun v σ H Q => gTup K n t v σ H Q ∨ gLst K n t v σ H Q
theorem pg_seq {Xc : Cx} {pos : Pos} {es : List Expr} {k : Nat} {t : TGs} {n : Nat} (hc : Xc.calm = true) (h : PGs Xc es t)
    (hn : (assignEach es Xc.env).length = n := by rfl) (hst : (assignEach es Xc.env).findIdx? (·.1) = none := by rfl) : PG Xc (.Tuple es k pos) (gSeq Xc.K n t) := by
  refine ⟨fun pins s σ H v u Q I r hw => ?_⟩
  rcases hw with hw | hw
  · exact (pg_tup hc h hn hst).run pins s σ H v u Q I r hw
  · exact (pg_lst hc h hn hst).run pins s σ H v u Q I r hw
theorem tj_seq {n : Nat} {tgs : TGs} {qs ps : List VP} {js : List Nat} (h : TJs K tgs qs js ps) (hn : qs.length = n) : TJ K (gSeq K n tgs) (eW qs) js ps := ⟨h.1, fun g Γ σ τ H x Q hi hτ ⟨S, hA⟩ k => by
  rcases eW_hd hA.top with z | z
  · obtain ⟨a, vs, rfl, h2, h3⟩ := Hd.l z
    exact .inr ⟨a, vs, rfl, hA.base.sh.seq h2, by rw [h3.len, hn], h.2 g Γ σ τ H vs Q hi hτ h3.len ⟨S, hA.pop.pushes h3⟩ k⟩
  · obtain ⟨a, vs, rfl, h2, h3⟩ := Hd.t z
    exact .inl ⟨a, vs, rfl, same_t hA.base.sh h2, by rw [h3.len, hn], h.2 g Γ σ τ H vs Q hi hτ h3.len ⟨S, hA.pop.pushes h3⟩ k⟩⟩
/-! ### a slice of a datum -/
def rSlQ (K : PySem.W.Frag) : V → Option Int → Option Int → Hp → VK → Prop := fun x lo hi H Q => rSlL K x lo hi H Q ∨ rSlA K x lo hi H Q
theorem sl_q {Xc : Cx} (hc : Xc.calm = true := by rfl) : SlR Xc (rSlQ Xc.K) := SlR.or sl_list sl_tupA
def cutD (d : PyData) (lo hi : Option Int) : R PyData := match d with
  | .list xs => .nx (.list (cutL xs lo hi))
  | .tuple xs => .nx (.tuple (cutL xs lo hi))
  | _ => .stuck
theorem f_cutD {d : PyData} {lo hi : Option Int} {f : PyData → O ρ lam α} (hA : At K g Γ σ ((v, .dat (eD d)) :: τ) H) (hm : Out (bindR (cutD d lo hi) f) N T B C E) (k : ∀ c v H', At K g Γ σ ((v, .dat (eD c)) :: τ) H' → Out (f c) N T B C E → Q v H') : rSlQ K v lo hi H Q := by
  cases d with
  | list xs =>
    refine .inl (o1_cutLT (xs := xs) (e := eD) .dat g σ τ H v Q (hA.box fun v S q => eD_list q) fun w H' h' => k _ w H' (h'.frz.box fun v S q => ?_) hm)
    have z := bx_l bx_d K _ v S q
    rw [dL, List.map_id] at z
    exact .of z
  | tuple xs =>
    refine .inr (o1_cutTT (xs := xs) (e := eD) g σ τ H v Q (hA.box fun v S q => eD_tup q) fun w H' h' => k _ w H' (h'.box fun v S q => ?_) hm)
    have z := bx_t bx_d K _ v S q
    rw [dT, List.map_id] at z
    exact .of z
  | _ => exact hm.elim
theorem x_sl {r : V → Option Int → Option Int → Hp → VK → Prop} {t1 t2 : TO} (h : te σ H fun x H1 => t1 σ H1 fun l H2 => t2 σ H2 fun u H3 => r x l u H3 Q) : tSl r te t1 t2 σ H Q := h
end
end Gv

set_option Elab.async false
set_option linter.all false
set_option maxRecDepth 100000
set_option maxHeartbeats 2000000
/-! Gv: what a text's top gives; small helps for printed proofs -/
namespace Gv
open PySem L2
section
variable {K : PySem.W.Frag} {ρ lam α β γ : Type} {X : Fx ρ} {Γ : List (Option Tm)} {g : Gh} {H : Hp} {σ : St} {τ : List (V × Tm)} {v x y : V} {t u z : Tm} {i j : Nat} {ta tb tc te : TE} {r r' : R2} {Q : VK} {N : α → Prop} {T : ρ → Prop} {B C : lam → Prop} {E : Er → Prop}
theorem dpt_d {d : PyData} : DpT K Γ (.dat (eD d)) d := DpT.dat (e := eD) (d := id) (x := d) bx_d
theorem hjl {sT : Type} {Gl : sT → List (Option Tm)} {js : List Nat} {n : Nat} (h1 : ∀ s, (Gl s).length = n) (h2 : js.all (fun j => decide (j < n)) = true) : ∀ s, ∀ j ∈ js, j < (Gl s).length := fun s j hj => by
  rw [h1 s]
  exact of_decide_eq_true (List.all_eq_true.mp h2 j hj)
def isNn (G : List (Option Tm)) (j : Nat) : Bool := match G[j]? with
  | some none => true
  | _ => false
theorem hnl {sT : Type} {Gl : sT → List (Option Tm)} {js : List Nat} (h : ∀ s, js.all (isNn (Gl s)) = true) : ∀ s, ∀ j ∈ js, (Gl s)[j]? = some none := fun s j hj => by
  have q := List.all_eq_true.mp (h s) j hj
  unfold isNn at q
  split at q
  · assumption
  · cases q
/-- a, b = x, y -/
theorem x_par {u : TS} {D : Ends} (h : ta σ H fun x H1 => tb σ H1 fun y H2 => u D ((σ.set i (some x)).set j (some y)) H2) : tSeq (tPar i j (tCons ta (tCons tb tNil))) u D σ H := by
  show ta σ H fun x H1 => tb σ H1 fun y H2 => ∃ v w, [x, y] = [v, w] ∧ u D ((σ.set i (some v)).set j (some w)) H2
  have e : (fun x H1 => tb σ H1 fun y H2 => ∃ v w, [x, y] = [v, w] ∧ u D ((σ.set i (some v)).set j (some w)) H2) = fun x H1 => tb σ H1 fun y H2 => u D ((σ.set i (some x)).set j (some y)) H2 := by
    funext x H1
    congr 1
    funext y H2
    apply propext
    constructor
    · rintro ⟨v, w, e, q⟩
      cases e
      exact q
    · exact fun q => ⟨x, y, rfl, q⟩
  rw [e]
  exact h
theorem At.setW (h : At K g Γ σ ((y, u) :: (x, t) :: []) H) (hu : ∀ j, u ≠ .als j) (ht : ∀ j, t ≠ .als j) (hj : j < Γ.length) (hi : i < Γ.length) (hij : i ≠ j) : At K g ((Γ.set i (some t)).set j (some u)) ((σ.set i (some x)).set j (some y)) [] H := by
  obtain ⟨S, h⟩ := h
  have h1 := h.set (i := j) hj hu (fun q hq k ek => by
    have : q = (x, t) := by simpa using hq
    subst this
    exact absurd ek (ht k))
  have h2 := h1.set (i := i) (by rw [List.length_set]; exact hi) ht (fun q hq => nomatch hq)
  rw [List.set_comm _ _ (Ne.symm hij), List.set_comm _ _ (Ne.symm hij)] at h2
  exact ⟨S, h2⟩
theorem f_par {n : α → List (Option Tm)} {b c : lam → List (Option Tm)} {m : O ρ lam α} {us : TS} {D : Ends} (hA : At K g Γ σ ((y, u) :: (x, t) :: []) H) (hu : ∀ j, u ≠ .als j) (ht : ∀ j, t ≠ .als j) (hj : j < Γ.length) (hi : i < Γ.length) (hij : i ≠ j)
    (hm : Out m (NxW K g n D.nx) (RtW K g X D.rt) (NxW K g b D.bk) (NxW K g c D.ct) (ErW K g X)) (h : BJ K X ((Γ.set i (some t)).set j (some u)) us m n b c) : us D ((σ.set i (some x)).set j (some y)) H := h g _ H D (hA.setW hu ht hj hi hij) hm
theorem x_gsub {to ti : TE} {ts : TSet} {Q : St → Hp → Prop} (h : to σ H fun o H1 => ti σ H1 fun i H2 => ts o i v H2 fun H3 => Q σ H3) : gSub to ti ts v σ H Q := h
theorem f_setm {e : β → VP} {xs : List β} {k : Int} {a : β} {x y z : V} {oa : Option Addr} {Q : Hp → Prop} {f : List β → O ρ lam α} (hg : Γ[i]? = some (some (.own oa (.lst (xs.map e))))) (hA : At K g Γ σ ((y, .dat (eI k)) :: (x, .als i) :: (z, .dat (e a)) :: τ) H)
    (hm : Out (bindR (setR xs k a) f) N T B C E) (kk : ∀ ys H', At K g (Γ.set i (some (.own oa (.lst (ys.map e))))) σ τ H' → Out (f ys) N T B C E → Q H') : rSetL x y z H Q :=
  f_set hg hA (hm.bindR.imp (fun ys q H' h' => kk ys H' h' q) fun _ q => q)
theorem f_appm {e : β → VP} {xs : List β} {a : β} {x y : V} {oa : Option Addr} {f : List β → O ρ lam α} (hg : Γ[i]? = some (some (.own oa (.lst (xs.map e))))) (hA : At K g Γ σ ((y, .dat (e a)) :: (x, .als i) :: τ) H)
    (hm : Out (bindR (appR xs a) f) N T B C E) (kk : ∀ ys H', At K g (Γ.set i (some (.own oa (.lst (ys.map e))))) σ τ H' → Out (f ys) N T B C E → Q .non H') : rAppend x [y] H Q :=
  f_app hg hA (hm.bindR.imp (fun ys q H' h' => kk ys H' h' q) fun _ q => q)
theorem x_app {rr : V → List V → Hp → VK → Prop} {xs : List β} {e : β → VP} {oa : Option Addr} (hg : Γ[i]? = some (some (.own oa (.lst (xs.map e))))) (hA : At K g Γ σ τ H) (h : ∀ x H1, At K g Γ σ ((x, .als i) :: τ) H1 → ta σ H1 fun y H2 => rr x [y] H2 Q) : tBM K "list" rr (tVar i) (tCons ta tNil) σ H Q :=
  x_bm1 <| ev_own hg g σ τ H _ hA fun x H1 ⟨S, h1⟩ => ⟨h1.tyL List.mem_cons_self (.als hg), h x H1 ⟨S, h1⟩⟩
end
/-! ### the text's top -/
structure Df (K : PySem.W.Frag) (mg : Str → Option Value) (x : Str) (st : Stmt) (f : Addr) (fd : FuncData) (pn : List Str) : Prop where
  F : Fun K x x st f fd
  g : mg x = some (.ref f)
  b : Binds K fd pn []
structure Ex1 (K : PySem.W.Frag) (mg : Str → Option Value) (cn q : Str) (fld : List Str) (st : Stmt) (C fI : Addr) (fd : FuncData) : Prop where
  oex : OexC K C
  g : mg cn = some (.ref C)
  iC : PySem.W.findIn K (.ref C) "__init__" = some (some (.ref fI))
  tI : PySem.W.typeIn K (.ref fI) = some (.type "function")
  F : Fun K "__init__" q st fI fd
  b : Binds K fd ("self" :: fld) []
  no : ∀ f ∈ fld, PySem.W.findIn K (.ref C) f = some none
  xf : XfC K C
end Gv

set_option Elab.async false
set_option linter.all false
set_option maxRecDepth 100000
set_option maxHeartbeats 2000000
/-! Gv: enumerate of a list or tuple; sorted pairs -/
namespace Gv
open PySem L2 PyProof.Rows
open Sem (wp)
/-! ### enumerate(v): its two cells -/
theorem meets_enum1 {v : Value} {o : Obj} {Hh : Heap → Prop} (B : Begins v o Hh) :
    Meets (Builtin.«enumerate.__new__» ⟨[.type "enumerate", v], []⟩) (fun _ R s => Hh s.heap ∧
      R (.ok (.ret (.ref (s.heap.push o).objs.size))) { s with heap := (s.heap.push o).push { cls := .type "enumerate", data := .fields #[.none, .bool false, .ref s.heap.objs.size, rawInt 0, .none, .none] } }) := by
  refine .of_wp fun prog w A R s h => ?_
  obtain ⟨hp, g, d, tk, os⟩ := s
  obtain ⟨h1, h⟩ := h
  have hs := sub_enumerate
  have q1 : ∀ {A2 : Around} {E : Value → Shared → Prop} {Q : Value → Shared → Prop}, Q (.ref hp.objs.size) ⟨hp.push o, g, d, tk, os⟩ → wpAny (model prog w) A2 (pyIter v) Q E ⟨hp, g, d, tk, os⟩ := fun q => B.iter prog w _ _ ⟨hp, g, d, tk, os⟩ _ h1 q
  wp_walk using q1
  refine wpAny_stack_any fun st => wpAny_pure ?_
  split
  · rename_i c _ _ _ _ _
    cases (c == Value.type "enumerate") <;> (wp_walk using q1; exact ⟨_, rfl, h⟩)
  · wp_walk using q1
    exact ⟨_, rfl, h⟩
theorem enum1_call {prog : Program} {w : World} {A : Around} {E : Value → Shared → Prop} {s : Shared} {v : Value} {o : Obj} {Hh : Heap → Prop} {Q : Value → Shared → Prop} (B : Begins v o Hh) (h1 : Hh s.heap)
    (h : ∀ h', IsEnum h' (s.heap.objs.size + 1) s.heap.objs.size 0 .none → h'.get? s.heap.objs.size = some o → (∀ b o, s.heap.get? b = some o → h'.get? b = some o) → Q (.ref (s.heap.objs.size + 1)) { s with heap := h' }) :
    wpAny (model prog w) A (call (.type "enumerate") [v]) Q E s := by
  refine callType_new F.called_enumerate (by decide) (F.typeCall_enumerate_1 _) (F.newCall_enumerate_1 _) (fun obj => F.args_object_init_2 obj _) F.entry_enumerate_new (meets_enum1 B) ⟨h1, ?_⟩
  have z : (s.heap.push o).objs.size = s.heap.objs.size + 1 := Heap.size_push ..
  show _ ∧ _
  rw [z]
  have e1 : IsEnum ((s.heap.push o).push { cls := .type "enumerate", data := .fields #[.none, .bool false, .ref s.heap.objs.size, rawInt 0, .none, .none] }) (s.heap.objs.size + 1) s.heap.objs.size 0 .none := by
    have q := Heap.get?_push_size (s.heap.push o) (o := { cls := .type "enumerate", data := .fields #[.none, .bool false, .ref s.heap.objs.size, rawInt 0, .none, .none] }) rfl
    rw [z] at q
    exact q
  exact ⟨⟨_, e1, rfl⟩, h _ e1 (Heap.get?_push_of_some _ (Heap.get?_push_size _ B.free)) fun b o q => Heap.get?_push_of_some _ (Heap.get?_push_of_some _ q)⟩
/-- the tuple at a, each item in a new pair -/
def IteT (K : PySem.W.Frag) (a : Addr) : It :=
  ⟨fun i H => ∃ (xs : List V) (x : V), SqT K H a xs ∧ xs[i]? = some x, fun i H v H' => ∃ T x, v = .ref T ∧ H T = none ∧ H' = upd H T (.tup [.int (i : Nat), x]) ∧ ∀ xs, SqT K H a xs → xs[i]? = some x, fun i H => ∃ xs : List V, SqT K H a xs ∧ xs.length ≤ i⟩
theorem turn_enumT {P : Program} {w : World} {K : PySem.W.Frag} {elts : List Expr} {kk : Nat} {tpos : Pos} (a e it : Addr) :
    Turn P w K (.Tuple elts kk tpos) (IteT K a) [e, it] e (fun i h => (∃ old, IsEnum h e it ((i : Nat) : Int) old) ∧ h.IsTupleIter it a i ∧ e ≠ it) := by
  have apart : ∀ {h : Heap} {i : Nat} {c : Int} {old : Value} {its : Array Value}, IsEnum h e it c old → h.IsTupleIter it a i → h.IsTuple a its → e ∉ [it, a] ∨ e = it := fun {h i c old its} h1 h2 h3 => by
    by_cases z : e = it
    · exact .inr z
    · refine .inl fun hm => ?_
      rcases List.mem_cons.mp hm with q | q
      · exact z q
      · have q2 : e = a := by simpa using q
        obtain ⟨o, ho, hc, _⟩ := h3
        rw [← q2] at ho
        have h1' : h.get? e = _ := h1
        rw [h1'] at ho
        cases ho
        have : ("enumerate" : String) = "tuple" := by injection hc
        exact absurd this (by decide)
  have ne2 : ∀ {h : Heap} {i : Nat} {its : Array Value}, h.IsTupleIter it a i → h.IsTuple a its → a ≠ it := fun {h i its} h2 h3 z => by
    obtain ⟨o, ho, hc, _⟩ := h3
    obtain ⟨o2, ho2, hc2, _⟩ := h2
    rw [z, ho2] at ho
    cases ho
    rw [hc2] at hc
    have : ("tuple_iterator" : String) = "tuple" := by injection hc
    exact absurd this (by decide)
  refine ⟨by simp, fun i h st b hb => ?_, fun i h h' st k => ?_, ?_, ?_, fun A i s Q E st h => ?_⟩
  · obtain ⟨⟨old, he⟩, ⟨o, ho, hc, hd⟩, _⟩ := st
    rcases (show b = e ∨ b = it by simpa using hb) with z | z
    · rw [z]
      exact ⟨_, he, fun v q => nomatch q⟩
    · rw [z]
      exact ⟨o, ho, fun v q => by rw [hd] at q; cases q⟩
  · obtain ⟨⟨old, he⟩, hi, hne⟩ := st
    exact ⟨⟨old, k e (by simp) _ he⟩, hi.at fun o q => k it (by simp) o q, hne⟩
  · intro X hP hw hK hc i pins s σ H E I hf st hg
    subst hP hw hK
    obtain ⟨⟨old, he⟩, hit, hne⟩ := st
    obtain ⟨xs, x, hq, hx⟩ := hg
    obtain ⟨its, rv, p, hz⟩ := I.tuple hq
    obtain ⟨u, hu, ru⟩ := rv.get hx
    have hlt : i < its.toArray.size := by
      have := (List.getElem?_eq_some_iff.mp hu).1
      simpa using this
    have hel : e < s.heap.objs.size := Heap.lt_size he
    have hil : it < s.heap.objs.size := by obtain ⟨_, q, _⟩ := hit; exact Heap.lt_size q
    have D := Draws.tuple (prog := X.prog) (w := X.w) (A := X.A.in1) (I.ok.hd hc) it a (ne2 hit p) its.toArray
    refine wpAny_pyNext_enum_itemD D he ⟨hit, p⟩ hlt hne ((apart he hit p).resolve_right hne) fun y h' tk hy ho hst hT hsz hk => ?_
    have ey : y = u := by
      have : its.toArray[i]? = some u := by simpa using hu
      rw [this] at hy
      exact (Option.some.inj hy).symm
    subst ey
    refine ⟨_, rfl, wpAny_letOwnedTupleGo_enum (s := { s with heap := h', toks := tk + 1 }) ho fun h2 he2 sb => ?_⟩
    have hT2 : h2.get? s.heap.objs.size = some { cls := .type "tuple", data := .seq #[.int i tk, y] } := (sb.2 _ (Nat.ne_of_gt hel)).trans hT
    have new : ObjOk X.prog X.w (upd H s.heap.objs.size (.tup [.int (i : Nat), x])) h2 s.heap.objs.size (.tup [.int (i : Nat), x]) :=
      ⟨by show 2 ≤ sizeLine; decide, [.int i tk, y], .cons ⟨_, rfl⟩ (.cons ru .nil), ⟨_, hT2, rfl, _, rfl⟩⟩
    have keep2 : ∀ b ob, b ∉ [e, it] → s.heap.get? b = some ob → h2.get? b = some ob := fun b ob hb q => by
      have b1 : b ≠ e := fun z => hb (by simp [z])
      have b2 : b ≠ it := fun z => hb (by simp [z])
      exact (sb.2 b b1).trans (hk b ob b1 b2 q)
    have I1 : Inv X pins σ (upd H s.heap.objs.size (.tup [.int (i : Nat), x])) { s with heap := h2, toks := tk + 1 } := I.turnedNew (ch := [e, it]) keep2 hf (Nat.le_refl _) new
    refine ⟨.ref s.heap.objs.size, _, I1, rfl, ⟨_, x, rfl, I.hok.fresh (Nat.le_refl _), rfl, fun ys hy => by rw [I.tuple_inj hy hq]; exact hx⟩, ⟨⟨y, ?_⟩, hst.1.at fun o q => (sb.2 it (Ne.symm hne)).trans q, hne⟩, fun b hb => ?_⟩
    · have e1 : ((i + 1 : Nat) : Int) = (i : Int) + 1 := by omega
      rw [e1]
      exact he2
    · have small : b < s.heap.objs.size := by
        rcases (show b = e ∨ b = it by simpa using hb) with z | z
        · rw [z]; exact hel
        · rw [z]; exact hil
      rw [upd_ne (Nat.ne_of_lt small)]
      exact (hf b hb).1
  · intro X hP hw hK hc i pins s σ H E I hf st hg
    subst hP hw hK
    obtain ⟨⟨old, he⟩, hit, hne⟩ := st
    obtain ⟨xs, hq, hx⟩ := hg
    obtain ⟨its, rv, p, hz⟩ := I.tuple hq
    obtain ⟨f0, f1, f2, f3, f4, f5⟩ := hf it (by simp)
    have hl := rv.length
    have T : s.TypeIs (.ref e) "enumerate" := ⟨_, he, rfl⟩
    unfold pyNext
    refine wpAny_bind (wpAny_attempt (wpAny_callSpecial?_slot (name := Str.ofString "__next__") T F.slot_enumerate_next (wpAny_call_entry F.slot_enumerate_next T F.entry_enumerate_next ?_ (F.args_enumerate_next_1 _))))
    show wpAny _ _ (field (.ref e) 2 >>= _) _ _ _
    refine wpAny_bind (wpAny_field he rfl (x := .ref it) rfl ?_)
    refine wpAny_bind (wpAny_nextOf_tuple_end (I.ok.hd hc) hit p (by simp; omega) fun h' x he' hx' => ?_)
    obtain ⟨o, ho, hcl⟩ := hx'
    refine wpAny_bind (wpAny_isInstance (T := "StopIteration") (b := true) ⟨o, ho, hcl⟩ isSubtype_stop ?_)
    exact wpAny_pure ⟨rfl, I.turned (t' := s.toks) (fun b o hb q => he' b o hb q) f0 f1 f3 f4 f5⟩
  · obtain ⟨⟨_, he⟩, _⟩ := st
    exact wpAny_pyIter_enum he h
/-- enumerate(v), v a list or a tuple -/
def iEnumQ (K : PySem.W.Frag) (tl : TE) : TI := fun σ H R => tl σ H fun v H1 => (∃ a, v = .ref a ∧ (∃ xs, SqL K H1 a xs) ∧ R (Ite K a) H1) ∨ (∃ a, v = .ref a ∧ (∃ xs, SqT K H1 a xs) ∧ R (IteT K a) H1)
theorem pi_enumQ {X : Cx} {e : Expr} {tl : TE} {p pos tpos : Pos} {elts : List Expr} {kk : Nat} (hg : Gl X "enumerate") (hm : X.mg "enumerate" = none) (he : PE X e tl) (hs : starEach [e] X.env = [(false, eval e X.env)] := by rfl) :
    PI X (.Tuple elts kk tpos) (.Call (.Name "enumerate" p) [e] [] pos) (iEnumQ X.K tl) := by
  refine ⟨fun pins s σ H R I h => ?_⟩
  have ha : PA X [e] (tCons tl tNil) := pa_cons he pa_nil (by rw [hs]; rfl)
  have h2 : (tCons tl tNil) σ H fun vs H1 => ∃ v, vs = [v] ∧ ((∃ a, v = V.ref a ∧ (∃ xs, SqL X.K H1 a xs) ∧ R (Ite X.K a) H1) ∨ (∃ a, v = V.ref a ∧ (∃ xs, SqT X.K H1 a xs) ∧ R (IteT X.K a) H1)) := by
    show tl σ H fun v H1 => ∃ v', [v] = [v'] ∧ _
    have eq : (fun v H1 => ∃ v', [v] = [v'] ∧ ((∃ a, v' = V.ref a ∧ (∃ xs, SqL X.K H1 a xs) ∧ R (Ite X.K a) H1) ∨ (∃ a, v' = V.ref a ∧ (∃ xs, SqT X.K H1 a xs) ∧ R (IteT X.K a) H1))) = fun v H1 => (∃ a, v = V.ref a ∧ (∃ xs, SqL X.K H1 a xs) ∧ R (Ite X.K a) H1) ∨ (∃ a, v = V.ref a ∧ (∃ xs, SqT X.K H1 a xs) ∧ R (IteT X.K a) H1) := by
      funext v H1
      apply propext
      constructor
      · rintro ⟨v', e1, q⟩
        cases e1
        exact q
      · exact fun q => ⟨v, rfl, q⟩
    rw [eq]
    exact h
  refine Call_ (ld_blt I hg hm boot_enumerate (PyProof.Rows.callWith_type1 (thn (ha.run pos pins s σ H _ I h2) fun us s1 hw => ?_) hs rfl))
  obtain ⟨vs, H1, I1, r1, v, ev, q1⟩ := hw
  subst ev
  cases r1 with
  | cons r rr =>
    cases rr
    have fresh : ∀ b ∈ [s1.heap.objs.size + 1, s1.heap.objs.size], FpOk X pins H1 b := fun b hb => by
      have hle : s1.heap.objs.size ≤ b := by
        rcases (show b = s1.heap.objs.size + 1 ∨ b = s1.heap.objs.size by simpa using hb) with z | z
        · rw [z]; exact Nat.le_add_right _ _
        · rw [z]; exact Nat.le_refl _
      exact I1.fpOk hle (I1.hok.fresh hle)
    rcases q1 with ⟨a, ea, ⟨ws, hq⟩, q⟩ | ⟨a, ea, ⟨ws, hq⟩, q⟩
    · rw [ea] at r
      cases r
      obtain ⟨its, rv, pl, hz⟩ := I1.list hq
      refine enum1_call (begins_list a its.toArray) pl.isList fun h' h1 h2 hk => wpAny_pyIter_enum h1 ?_
      exact ⟨s1.heap.objs.size + 1, [s1.heap.objs.size + 1, s1.heap.objs.size], _, _, H1, rfl, I1.kept (t' := s1.toks) hk, turn_enum a (s1.heap.objs.size + 1) s1.heap.objs.size, ⟨⟨.none, h1⟩, ⟨_, h2, rfl, rfl⟩, Nat.succ_ne_self _⟩, fresh, q⟩
    · rw [ea] at r
      cases r
      obtain ⟨its, rv, pt, hz⟩ := I1.tuple hq
      refine enum1_call (begins_tuple a its.toArray) pt fun h' h1 h2 hk => wpAny_pyIter_enum h1 ?_
      exact ⟨s1.heap.objs.size + 1, [s1.heap.objs.size + 1, s1.heap.objs.size], _, _, H1, rfl, I1.kept (t' := s1.toks) hk, turn_enumT a (s1.heap.objs.size + 1) s1.heap.objs.size, ⟨⟨.none, h1⟩, ⟨_, h2, rfl, rfl⟩, Nat.succ_ne_self _⟩, fresh, q⟩
end Gv

set_option Elab.async false
set_option linter.all false
set_option maxRecDepth 100000
set_option maxHeartbeats 2000000
/-! Gv: enumerate walked; pairs of ints that stand as they were laid; sorted of such -/
namespace Gv
open PySem L2
/-! ### sorted pairs, in plain Lean -/
def insP (x : Int × Int) : List (Int × Int) → List (Int × Int)
  | [] => [x]
  | y :: ys => if SrtO.lexB y x then y :: insP x ys else x :: y :: ys
def sortP : List (Int × Int) → List (Int × Int)
  | [] => []
  | x :: xs => insP x (sortP xs)
theorem insP_perm (x : Int × Int) : ∀ l : List (Int × Int), (insP x l).Perm (x :: l)
  | [] => .refl _
  | y :: ys => by
    unfold insP
    split
    · exact ((insP_perm x ys).cons y).trans (.swap _ _ _)
    · exact .refl _
theorem sortP_perm : ∀ l : List (Int × Int), (sortP l).Perm l
  | [] => .refl _
  | x :: xs => (insP_perm x (sortP xs)).trans ((sortP_perm xs).cons x)
theorem insP_sorted (x : Int × Int) : ∀ l : List (Int × Int), SrtO.Srtd SrtO.lexB l → SrtO.Srtd SrtO.lexB (insP x l)
  | [], _ => List.pairwise_singleton _ _
  | y :: ys, h => by
    obtain ⟨h1, h2⟩ := List.pairwise_cons.mp h
    unfold insP
    split
    · rename_i e
      refine List.pairwise_cons.mpr ⟨fun z hz => ?_, insP_sorted x ys h2⟩
      rcases List.mem_cons.mp ((insP_perm x ys).mem_iff.mp hz) with rfl | hz
      · have := SrtO.lexB_iff.mp e
        exact SrtO.lexB_no.mpr (by omega)
      · exact h1 z hz
    · rename_i e
      have e' := SrtO.lexB_no.mp (by simpa using e)
      refine List.pairwise_cons.mpr ⟨fun z hz => ?_, h⟩
      rcases List.mem_cons.mp hz with rfl | hz
      · exact SrtO.lexB_no.mpr e'
      · have q := SrtO.lexB_no.mp (h1 z hz)
        exact SrtO.lexB_no.mpr (by omega)
theorem sortP_sorted : ∀ l : List (Int × Int), SrtO.Srtd SrtO.lexB (sortP l)
  | [] => .nil
  | x :: xs => insP_sorted x _ (sortP_sorted xs)
theorem lex_uniq : ∀ {l m : List (Int × Int)}, l.Perm m → SrtO.Srtd SrtO.lexB l → SrtO.Srtd SrtO.lexB m → l = m
  | [], m, p, _, _ => (List.Perm.nil_eq p)
  | x :: l, [], p, _, _ => absurd p.length_eq (by simp)
  | x :: l, y :: m, p, hl, hm => by
    obtain ⟨l1, l2⟩ := List.pairwise_cons.mp hl
    obtain ⟨m1, m2⟩ := List.pairwise_cons.mp hm
    have e : x = y := by
      rcases List.mem_cons.mp (p.mem_iff.mp List.mem_cons_self) with e | hx
      · exact e
      · rcases List.mem_cons.mp (p.mem_iff.mpr List.mem_cons_self) with e | hy
        · exact e.symm
        · have a := SrtO.lexB_no.mp (m1 x hx)
          have b := SrtO.lexB_no.mp (l1 y hy)
          obtain ⟨x1, x2⟩ := x
          obtain ⟨y1, y2⟩ := y
          simp only at a b
          have : x1 = y1 := by omega
          have : x2 = y2 := by omega
          simp_all
    subst e
    rw [lex_uniq p.cons_inv l2 m2]
/-- a pair of ints that stands as it was laid -/
def eQ (x : Int × Int) : VP := fun _ v S => ∃ a, v = .ref a ∧ S a = some (.tup [.int x.1, .int x.2])
def enumL {β : Type} (xs : List β) : List (Int × β) := xs.zipIdx.map fun p => ((p.2 : Int), p.1)
theorem enumL_len {β : Type} (xs : List β) : (enumL xs).length = xs.length := by unfold enumL; rw [List.length_map, List.length_zipIdx]
theorem enumL_get {β : Type} {xs : List β} {i : Nat} {b : Int × β} (h : (enumL xs)[i]? = some b) : b.1 = (i : Nat) ∧ xs[i]? = some b.2 := by
  unfold enumL at h
  rw [List.getElem?_map, List.getElem?_zipIdx] at h
  cases e : xs[i]? with
  | none => rw [e] at h; cases h
  | some y =>
    rw [e] at h
    simp only [Option.map_some, Option.some.injEq] at h
    subst h
    exact ⟨by simp, rfl⟩
section
variable {K : PySem.W.Frag} {ρ lam α β γ : Type} {X : Fx ρ} {Γ : List (Option Tm)} {g : Gh} {S H : Hp} {σ : St} {τ : List (V × Tm)} {v x y : V} {t u z : Tm} {i j : Nat} {ta tb tc te : TE} {r r' : R2} {Q : VK} {N : α → Prop} {T : ρ → Prop} {B C : lam → Prop} {E : Er → Prop}
  {e : β → VP} {xs : List β} {Rk : It → Hp → Prop}
theorem eQ_p {x : Int × Int} (h : Hd K (eQ x) v S) : Hd K (eP2 eI eI x) v S := by
  obtain ⟨S0, e0, a, rfl, h1⟩ := h
  exact ⟨S0, e0, a, _, rfl, SqT.of h1, .cons (.of rfl) (.cons (.of rfl) .nil)⟩
theorem f_tupQ {a b : Int} (hA : At K g Γ σ ((y, .dat (eI b)) :: (x, .dat (eI a)) :: τ) H) (k : ∀ v H', At K g Γ σ ((v, .dat (eQ (a, b))) :: τ) H' → Q v H') : TupK Q [x, y] H := by
  obtain ⟨S, h⟩ := hA
  have e1 : y = V.int b := h.top.i
  have e2 : x = V.int a := h.pop.top.i
  subst e1 e2
  exact ⟨by show 2 ≤ sizeLine; decide, fun p hp => k _ _ ⟨_, (h.pop.pop.lay hp).push (.of ⟨p, rfl, upd_same⟩)⟩⟩
theorem hds_q {kf : V → Int × Int} : ∀ {xs : List (Int × Int)} {vs : List V}, Hds K S (xs.map eQ) vs → Same S H → (∀ t i j, H t = some (.tup [.int i, .int j]) → kf (.ref t) = (i, j)) → xs = vs.map kf ∧ ∀ v ∈ vs, ∃ t, v = V.ref t ∧ S t = some (.tup [.int (kf v).1, .int (kf v).2])
  | [], _, .nil, _, _ => ⟨rfl, fun v h => nomatch h⟩
  | x :: xs, _, .cons r t, hs, hk => by
    obtain ⟨q1, q2⟩ := hds_q (xs := xs) t hs hk
    obtain ⟨S0, e0, a, ea, h1⟩ := r
    have h2 := e0 _ _ h1
    have h3 := hk a _ _ (hs _ _ h2)
    refine ⟨?_, fun v hv => ?_⟩
    · rw [List.map_cons, ea, h3, ← q1]
    · rcases List.mem_cons.mp hv with rfl | hv
      · exact ⟨a, ea, by rw [ea, h3]; exact h2⟩
      · exact q2 v hv
theorem q_hds {kf : V → Int × Int} : ∀ {vs : List V}, (∀ v ∈ vs, ∃ t, v = V.ref t ∧ S t = some (.tup [.int (kf v).1, .int (kf v).2])) → Hds K S ((vs.map kf).map eQ) vs
  | [], _ => .nil
  | v :: vs, h => by
    obtain ⟨t, e, q⟩ := h v List.mem_cons_self
    exact .cons (.of ⟨t, e, q⟩) (q_hds fun w hw => h w (List.mem_cons_of_mem _ hw))
/-- sorted(xs) of pairs of ints -/
theorem o1_sortedQ {xs : List (Int × Int)} (hl : IsL Γ t (xs.map eQ)) : O1 K Γ (fun x => rSortedPO K [x]) t (.own none (.lst ((sortP xs).map eQ))) := fun g σ τ H x Q ⟨S, h⟩ k => by
  obtain ⟨a, vs, rfl, h2, h3⟩ := h.isL List.mem_cons_self hl
  let kf : V → Int × Int := fun v => match v with
    | .ref t => match H t with
      | some (.tup [.int i, .int j]) => (i, j)
      | _ => (0, 0)
    | _ => (0, 0)
  have hk : ∀ t i j, H t = some (.tup [.int i, .int j]) → kf (.ref t) = (i, j) := fun t i j e => by
    show (match H t with
      | some (.tup [.int i, .int j]) => (i, j)
      | _ => (0, 0)) = (i, j)
    rw [e]
  obtain ⟨q1, q2⟩ := hds_q (kf := kf) h3 h.base.sh hk
  refine ⟨a, vs, kf, rfl, h2, fun v hv => ?_, fun ys p h1 hst hn => k _ _ ⟨S, h.pop.fresh hn ⟨ys, rfl, ?_⟩⟩⟩
  · obtain ⟨t, e, q⟩ := q2 v hv
    exact ⟨t, e, h.base.sh _ _ q⟩
  · have e : sortP xs = ys.map kf := by
      refine lex_uniq ((sortP_perm xs).trans ?_) (sortP_sorted xs) (SrtO.srtd_map h1)
      rw [q1]
      exact (hst.perm.map kf).symm
    rw [e]
    exact q_hds fun v hv => q2 v (hst.perm.mem_iff.mp hv)
/-! ### enumerate walked -/
theorem walk_enumT {a : Addr} {vs : List V} : Walk (IteT K a) vs.length (fun H => SqT K H a vs) (YPair (fun i => some (.int (i : Nat))) (fun i => vs[i]?)) := by
  refine ⟨fun i _ hi q => ⟨vs, vs[i], q, by simp [hi]⟩, fun _ q => ⟨vs, q, Nat.le_refl _⟩, fun i H v H' _ q y => ?_⟩
  obtain ⟨T, x, h1, h2, h3, h4⟩ := y
  exact ⟨T, .int (i : Nat), x, h1, h2, h3, rfl, h4 vs q⟩
theorem enum_yield {g : Gh} {S : Hp} {vs : List V} (h3 : Hds K S (xs.map e) vs) (hS : Same S g.S0) : ∀ (i : Nat) (b : Int × β) (x : V) (H1 H2 : Hp) (Γ' : List (Option Tm)) (σ' : St) (τ' : List (V × Tm)), (enumL xs)[i]? = some b →
    YPair (fun i => some (.int (i : Nat))) (fun i => vs[i]?) i H1 x H2 → At K g Γ' σ' τ' H1 → At K g Γ' σ' ((x, .dat (eP2 eI e b)) :: τ') H2 := fun i b x H1 H2 Γ' σ' τ' hb hy ⟨S2, hA2⟩ => by
  obtain ⟨T, y, w, rfl, hn, rfl, e1, e2⟩ := hy
  obtain ⟨b1, b2⟩ := enumL_get hb
  have e1' : y = V.int (i : Nat) := (Option.some.inj e1).symm
  obtain ⟨w2, w3, w4⟩ := h3.get (show (xs.map e)[i]? = some (e b.2) by rw [List.getElem?_map, b2]; rfl)
  have e2' : vs[i]? = some w := e2
  rw [e2'] at w3
  cases w3
  subst e1'
  refine hA2.newT hn (ps := [eI b.1, e b.2]) (.cons (.of ?_) (.cons ((w4.mono hS).mono hA2.base.s0) .nil))
  show V.int _ = V.int _
  rw [b1]
theorem wk_enumL (hA : At K g Γ σ ((v, .dat (eL e xs)) :: τ) H) (hm : WK K g Γ σ τ (enumL xs) (eP2 eI e) Rk) : ∃ a, v = .ref a ∧ (∃ xs, SqL K H a xs) ∧ Rk (Ite K a) H := by
  obtain ⟨S, h⟩ := hA
  obtain ⟨a, vs, rfl, h2, h3⟩ := Hd.l h.top
  have hl : vs.length = (enumL xs).length := by rw [enumL_len, h3.len, List.length_map]
  exact ⟨a, rfl, ⟨vs, h.base.sh.seq h2⟩, hm (Ite K a) (fun H => SqL K H a vs) _ S H (by rw [← hl]; exact walk_enum) h.base.s0 h.base.fs ⟨S, h.pop.reS⟩ (fun S2 H2 B => B.reS.seq h2) (enum_yield h3 (Same.refl _))⟩
theorem wk_enumT (hA : At K g Γ σ ((v, .dat (eT e xs)) :: τ) H) (hm : WK K g Γ σ τ (enumL xs) (eP2 eI e) Rk) : ∃ a, v = .ref a ∧ (∃ xs, SqT K H a xs) ∧ Rk (IteT K a) H := by
  obtain ⟨S, h⟩ := hA
  obtain ⟨a, vs, rfl, h2, h3⟩ := Hd.t h.top
  have hl : vs.length = (enumL xs).length := by rw [enumL_len, h3.len, List.length_map]
  exact ⟨a, rfl, ⟨vs, same_t h.base.sh h2⟩, hm (IteT K a) (fun H => SqT K H a vs) _ S H (by rw [← hl]; exact walk_enumT) h.base.s0 h.base.fs ⟨S, h.pop.reS⟩ (fun S2 H2 B => same_t B.reS h2) (enum_yield h3 (Same.refl _))⟩
theorem wk_enumD {d : PyData} {F : List PyData → O ρ lam α} (hA : At K g Γ σ ((v, .dat (eD d)) :: τ) H) (hm : Out (bindR (itemsD d) F) N T B C E) (k : ∀ xs, Out (F xs) N T B C E → WK K g Γ σ τ (enumL xs) (eP2 eI eD) Rk) :
    (∃ a, v = .ref a ∧ (∃ xs, SqL K H a xs) ∧ Rk (Ite K a) H) ∨ (∃ a, v = .ref a ∧ (∃ xs, SqT K H a xs) ∧ Rk (IteT K a) H) :=
  f_items hA hm fun xs h hm => h.elim (fun h => .inl (wk_enumL h (k xs hm))) fun h => .inr (wk_enumT h (k xs hm))
theorem wk_enumQL (hA : At K g Γ σ ((v, .dat (eL e xs)) :: τ) H) (hm : WK K g Γ σ τ (enumL xs) (eP2 eI e) Rk) : (∃ a, v = .ref a ∧ (∃ xs, SqL K H a xs) ∧ Rk (Ite K a) H) ∨ (∃ a, v = .ref a ∧ (∃ xs, SqT K H a xs) ∧ Rk (IteT K a) H) := .inl (wk_enumL hA hm)
theorem wk_enumQT (hA : At K g Γ σ ((v, .dat (eT e xs)) :: τ) H) (hm : WK K g Γ σ τ (enumL xs) (eP2 eI e) Rk) : (∃ a, v = .ref a ∧ (∃ xs, SqL K H a xs) ∧ Rk (Ite K a) H) ∨ (∃ a, v = .ref a ∧ (∃ xs, SqT K H a xs) ∧ Rk (IteT K a) H) := .inr (wk_enumT hA hm)
variable {tg : TG} {tb' us : TS} {D : Ends} {tl : TE} {tt : TT} {vs : List Nat}
theorem x_forE (h : tl σ H fun v H1 => (∃ a, v = .ref a ∧ (∃ xs, SqL K H1 a xs) ∧ FR tg tb' us D σ (Ite K a) H1) ∨ (∃ a, v = .ref a ∧ (∃ xs, SqT K H1 a xs) ∧ FR tg tb' us D σ (IteT K a) H1)) : tSeq (tFor (iEnumQ K tl) tg tb') us D σ H := h
theorem x_lcE (h : tl σ H fun v H1 => (∃ a, v = .ref a ∧ (∃ xs, SqL K H1 a xs) ∧ LR tg tt te vs σ Q (Ite K a) H1) ∨ (∃ a, v = .ref a ∧ (∃ xs, SqT K H1 a xs) ∧ LR tg tt te vs σ Q (IteT K a) H1)) : tLc (iEnumQ K tl) tg tt te vs σ H Q := h
/-- a tuple's items boxed -/
theorem hds_box {d : β → PyData} (h : Bx e d) : ∀ {xs : List β} {vs : List V}, Hds K S (xs.map e) vs → Hds K S ((xs.map d).map eD) vs
  | [], _, .nil => .nil
  | x :: xs, _, .cons r t => .cons (Bx.hd h _ _ r) (hds_box h t)
theorem boxT {d : β → PyData} (h : Bx e d) {xs : List β} : ∀ v S, Hd K (eT e xs) v S → Hd K (eT eD (xs.map d)) v S := fun v S q => by
  obtain ⟨a, vs, rfl, h2, h3⟩ := Hd.t q
  exact .of ⟨a, vs, rfl, h2, hds_box h h3⟩
theorem boxL {d : β → PyData} (h : Bx e d) {xs : List β} : ∀ v S, Hd K (eL e xs) v S → Hd K (eL eD (xs.map d)) v S := fun v S q => by
  obtain ⟨a, vs, rfl, h2, h3⟩ := Hd.l q
  exact .of ⟨a, vs, rfl, h2, hds_box h h3⟩
end
/-! ### the law's own head -/
def spLaw (K : PySem.W.Frag) (n : Nat) : Sp := fun vs H Q E => ∃ (a : Addr) (ns : List Int), vs = [V.ref a] ∧ SqL K H a (ns.map V.int) ∧ ns.length ≤ n ∧ ∀ H', Q (.bl true) H'
theorem ints_hds {K : PySem.W.Frag} {S : Hp} : ∀ ns : List Int, Hds K S (ns.map eI) (ns.map V.int)
  | [] => .nil
  | n :: ns => .cons (.of rfl) (ints_hds ns)
theorem law_sp {K : PySem.W.Frag} {EC : Str → Addr} {n : Nat} {m : List Int → R Bool} {post : Bool → List Addr → List (Option Tm)} (h : ∀ ns, ns.length ≤ n → m ns = .nx true) {vs : List V} {H : Hp} {Q : VK} {E : XK} (q : spLaw K n vs H Q E) :
    Spec K EC 1 (fun a _ => [some (.dat (eL eI a))]) m post (fun r => .dat (eB r)) vs H Q E := by
  obtain ⟨a, ns, rfl, hS, hl, k⟩ := q
  refine ⟨rfl, ns, [], ⟨H, H⟩, rfl, ⟨H, ⟨Same.refl H, Same.refl H, Same.refl H, fun b h1 h2 => h2⟩, Nat.le_refl _, fun x hx => ?_, fun x hx j => ?_, fun x hx => (nomatch hx), ?_⟩, ?_⟩
  · have : x = (V.ref a, Tm.dat (eL eI ns)) := by simpa [pack] using hx
    subst this
    exact .of ⟨a, _, rfl, hS, ints_hds ns⟩
  · have : x = (V.ref a, Tm.dat (eL eI ns)) := by simpa [pack] using hx
    subst this
    exact fun z => nomatch z
  · simp [pack, addrs]
  · rw [h ns hl]
    intro v H' σ' ⟨S, hA⟩
    rw [show v = V.bl true from hA.top.b]
    exact k H'
def strD : PyData → R Str
  | .str x => .nx x
  | _ => .stuck
def boolD : PyData → R Bool
  | .bool x => .nx x
  | _ => .stuck
section
variable {K : PySem.W.Frag} {ρ lam α : Type} {Γ : List (Option Tm)} {g : Gh} {H : Hp} {σ : St} {τ : List (V × Tm)} {v : V} {N : α → Prop} {T : ρ → Prop} {B C : lam → Prop} {E : Er → Prop} {P : Prop}
theorem f_str {d : PyData} {f : Str → O ρ lam α} (hA : At K g Γ σ ((v, .dat (eD d)) :: τ) H) (hm : Out (bindR (strD d) f) N T B C E) (k : ∀ i, At K g Γ σ ((v, .dat (eS i)) :: τ) H → Out (f i) N T B C E → P) : P := by
  cases d with
  | str i =>
    refine k i (hA.box fun v S q => ?_) hm
    obtain ⟨S0, e, q⟩ := q
    have q : Dp K S0 v (.str i) := q
    cases q
    exact .of rfl
  | _ => exact hm.elim
theorem f_boolD {d : PyData} {f : Bool → O ρ lam α} (hA : At K g Γ σ ((v, .dat (eD d)) :: τ) H) (hm : Out (bindR (boolD d) f) N T B C E) (k : ∀ i, At K g Γ σ ((v, .dat (eB i)) :: τ) H → Out (f i) N T B C E → P) : P := by
  cases d with
  | bool i =>
    refine k i (hA.box fun v S q => ?_) hm
    obtain ⟨S0, e, q⟩ := q
    have q : Dp K S0 v (.bool i) := q
    cases q
    exact .of rfl
  | _ => exact hm.elim
end
theorem pe_gk {X : Cx} {v : V} {x : Str} {pos : Pos} (hg : Gl X x) (h : ∃ u, X.mg x = some u ∧ RelV v u) (hd : (x == ("__debug__" : Str)) = false := by decide) : PE X (.Name x pos) (tC v) := by
  obtain ⟨u, h1, h2⟩ := h
  exact pe_glob hg h1 h2 hd
end Gv

set_option Elab.async false
set_option linter.all false
set_option maxRecDepth 100000
set_option maxHeartbeats 2000000
/-! Gv: what stands behind the top -/
namespace Gv
open PySem L2 PyProof.Rows
theorem exm_of {K : PySem.W.Frag} {S C : Addr} {b : Bool} (eC : PySem.W.subIn K (.ref C) (.type "BaseException") = some true) (iC : PySem.W.isClsIn K C = true) (tC : PySem.W.typeIn K (.ref C) = some (.type "type"))
    (h4 : PySem.W.subIn K (.ref S) (.ref C) = some b) : PySem.W.exmOne K (.ref S) (.ref C) = some b := by
  have e1 : (PySem.W.subIn K (.ref C) (.type "BaseException") == some true) = true := by rw [eC] <;> rfl
  have e2 : ((PySem.W.clsIn K C).isSome && PySem.W.typeIn K (.ref C) == some (.type "type")) = true := by
    have q : (PySem.W.clsIn K C).isSome = true := iC
    rw [q, tC] <;> rfl
  show (if (PySem.W.subIn K (.ref C) (.type "BaseException") == some true) = true then (if ((PySem.W.clsIn K C).isSome && PySem.W.typeIn K (.ref C) == some (.type "type")) = true then PySem.W.subIn K (.ref S) (.ref C) else none) else none) = some b
  rw [if_pos e1, if_pos e2]
  exact h4
end Gv

set_option Elab.async false
set_option linter.all false
set_option maxRecDepth 100000
set_option maxHeartbeats 1000000
/-! Gm: how mirrors are read -/
namespace Gv
open PySem L2
section
variable {ρ lam α β γ σ : Type}
@[simp] theorem bindR_nx (a : α) (f : α → O ρ lam β) : bindR (.nx a) f = f a := rfl
@[simp] theorem bindR_er (x : Er) (f : α → O ρ lam β) : bindR (.er x) f = .er x := rfl
@[simp] theorem bind_nx (a : α) (f : α → O ρ lam β) : O.bind (.nx a) f = f a := rfl
@[simp] theorem bind_rt (a : ρ) (f : α → O ρ lam β) : O.bind (.rt a) f = .rt a := rfl
@[simp] theorem bind_er (a : Er) (f : α → O ρ lam β) : O.bind (.er a : O ρ lam α) f = .er a := rfl
@[simp] theorem lt_eq (e : β) (f : β → γ) : lt e f = f e := rfl
@[simp] theorem fin_rt (r : ρ) (d : α → R ρ) : fin (.rt r) d = .nx r := rfl
@[simp] theorem fin_nx (r : α) (d : α → R ρ) : fin (.nx r) d = d r := rfl
@[simp] theorem fin_er (x : Er) (d : α → R ρ) : fin (.er x) d = .er x := rfl
@[simp] theorem forO_nil (f : σ → β → O ρ σ σ) (s : σ) : (forO f [] s : O ρ lam σ) = .nx s := rfl
theorem forO_cons {f : σ → β → O ρ σ σ} {x : β} {xs : List β} {s s' : σ} (h : f s x = .nx s') : (forO f (x :: xs) s : O ρ lam σ) = forO f xs s' := by
  show (match f s x with
    | .nx s' => forO f xs s' | .ct s' => forO f xs s' | .bk s' => .nx s' | .rt r => .rt r | .er x => .er x | .stuck => .stuck) = _
  rw [h]
theorem forO_er {f : σ → β → O ρ σ σ} {x : β} {xs : List β} {s : σ} {e : Er} (h : f s x = .er e) : (forO f (x :: xs) s : O ρ lam σ) = .er e := by
  show (match f s x with
    | .nx s' => forO f xs s' | .ct s' => forO f xs s' | .bk s' => .nx s' | .rt r => .rt r | .er x => .er x | .stuck => .stuck) = _
  rw [h]
theorem forO_rt {f : σ → β → O ρ σ σ} {x : β} {xs : List β} {s : σ} {e : ρ} (h : f s x = .rt e) : (forO f (x :: xs) s : O ρ lam σ) = .rt e := by
  show (match f s x with
    | .nx s' => forO f xs s' | .ct s' => forO f xs s' | .bk s' => .nx s' | .rt r => .rt r | .er x => .er x | .stuck => .stuck) = _
  rw [h]
/-- each turn goes on; I by the turn -/
theorem forO_ind {f : σ → β → O ρ σ σ} (I : Nat → σ → Prop) : ∀ (xs : List β) (k : Nat) (s : σ), I k s → (∀ i s x, xs[i]? = some x → I (k + i) s → ∃ s', f s x = .nx s' ∧ I (k + i + 1) s') → ∃ s', (forO f xs s : O ρ lam σ) = .nx s' ∧ I (k + xs.length) s'
  | [], k, s, h0, _ => ⟨s, rfl, h0⟩
  | x :: xs, k, s, h0, h => by
    obtain ⟨s1, e, h1⟩ := h 0 s x rfl h0
    obtain ⟨s2, e2, h2⟩ := forO_ind I xs (k + 1) s1 h1 fun i s y hy hi => by
      have q := h (i + 1) s y (by simpa using hy) (by rw [show k + (i + 1) = k + 1 + i by omega]; exact hi)
      rw [show k + (i + 1) + 1 = k + 1 + i + 1 by omega] at q
      exact q
    refine ⟨s2, by rw [forO_cons e]; exact e2, ?_⟩
    rw [List.length_cons, show k + (xs.length + 1) = k + 1 + xs.length by omega]
    exact h2
theorem forO_inv {f : σ → β → O ρ σ σ} (I : σ → Prop) (xs : List β) (s : σ) (h0 : I s) (h : ∀ s x, x ∈ xs → I s → ∃ s', f s x = .nx s' ∧ I s') : ∃ s', (forO f xs s : O ρ lam σ) = .nx s' ∧ I s' := by
  obtain ⟨s', e, q⟩ := forO_ind (lam := lam) (f := f) (fun _ => I) xs 0 s h0 fun i s x hx hi => h s x (List.mem_of_getElem? hx) hi
  exact ⟨s', e, q⟩
/-- each turn is a step of a fold -/
theorem forO_fold {f : σ → β → O ρ σ σ} (g : σ → β → σ) : ∀ (xs : List β) (s : σ) (I : σ → Prop), I s → (∀ s x, x ∈ xs → I s → f s x = .nx (g s x) ∧ I (g s x)) → (forO f xs s : O ρ lam σ) = .nx (xs.foldl g s) ∧ I (xs.foldl g s)
  | [], s, I, h0, _ => ⟨rfl, h0⟩
  | x :: xs, s, I, h0, h => by
    obtain ⟨e, h1⟩ := h s x List.mem_cons_self h0
    rw [forO_cons e]
    exact forO_fold g xs (g s x) I h1 fun s y hy hi => h s y (List.mem_cons_of_mem _ hy) hi
theorem lcR_map {s : σ} {f : σ → β → R (σ × Option γ)} (g : β → γ) : ∀ (xs : List β) (acc : List γ), (∀ b, b ∈ xs → f s b = .nx (s, some (g b))) → acc.length + xs.length ≤ 1000000 → lcR f xs s acc = .nx (s, acc ++ xs.map g)
  | [], acc, _, _ => by rw [List.map_nil, List.append_nil]; rfl
  | x :: xs, acc, h, hl => by
    have e := h x List.mem_cons_self
    have hl' : acc.length < 1000000 := by simp at hl; omega
    unfold lcR
    rw [e]
    show (if acc.length < 1000000 then lcR f xs s (acc ++ [g x]) else .stuck) = _
    rw [if_pos hl', lcR_map g xs (acc ++ [g x]) (fun b hb => h b (List.mem_cons_of_mem _ hb)) (by simp at hl ⊢; omega), List.append_assoc]
    rfl
theorem gd_true {c : Bool} {a : α} (h : c = true) : gd c a = .nx a := by
  subst h
  rfl
theorem modR_nx {a b : Int} (h : 0 < b) : modR a b = .nx (a % b) := gd_true (decide_eq_true h)
theorem divR_nx {a b : Int} (h : 0 < b) (h2 : b < 1073741824) : divR a b = .nx (a / b) := gd_true (by simp [h, h2])
theorem mulR_nx {a b : Int} (h : 0 ≤ a ∧ a < 1000000000000000000 ∨ 0 ≤ b ∧ b < 1000000000000000000) : mulR a b = .nx (a * b) := gd_true (by
  simp only [Bool.or_eq_true, Bool.and_eq_true, decide_eq_true_eq]
  omega)
theorem rngR_nx {a b : Int} (h : -1000000000 ≤ a ∧ a ≤ 1000000000 ∧ -1000000000 ≤ b ∧ b ≤ 1000000000) : rngR a b = .nx (rangeL a b) := by
  rw [rngR_eq]
  exact gd_true (by simp only [Bool.and_eq_true, decide_eq_true_eq]; omega)
theorem appR_nx {xs : List α} {x : α} (h : xs.length < 1000000) : appR xs x = .nx (xs ++ [x]) := gd_true (decide_eq_true h)
theorem catR_nx {xs ys : List α} (h : xs.length + ys.length ≤ 1000000) : catR xs ys = .nx (xs ++ ys) := gd_true (decide_eq_true h)
theorem ixN_nat {n k : Nat} (h : k < n) : ixN n (k : Int) = some k := by
  unfold ixN
  rw [if_pos (by omega), if_pos (by omega)]
  rfl
theorem idx_nat {xs : List α} {k : Nat} {a : α} (h : xs[k]? = some a) : idx xs (k : Int) = .nx a := by
  have hk : k < xs.length := (List.getElem?_eq_some_iff.mp h).1
  unfold idx atI
  rw [ixN_nat hk]
  show (match xs[k]? with
    | some a => O.nx a
    | none => .stuck) = _
  rw [h]
theorem mem_rangeL {a b x : Int} : x ∈ rangeL a b ↔ a ≤ x ∧ x < b := by
  unfold rangeL
  simp only [List.mem_map, List.mem_range]
  constructor
  · rintro ⟨i, h1, rfl⟩
    omega
  · rintro ⟨h1, h2⟩
    exact ⟨(x - a).toNat, by omega, by omega⟩
theorem rangeL_get0 {n i : Nat} {x : Int} (h : (rangeL 0 (n : Int))[i]? = some x) : x = (i : Int) ∧ i < n := by
  have e := rangeL_get h
  have l := (List.getElem?_eq_some_iff.mp h).1
  rw [rangeL_len] at l
  omega
/-! ### what a mirror ends with -/
variable {N : α → Prop} {N' : β → Prop} {T : ρ → Prop} {B C : lam → Prop} {E : Er → Prop}
theorem o_bindR {m : R α} {f : α → O ρ lam β} (h : OutR m (fun a => Out (f a) N' T B C E) E) : Out (bindR m f) N' T B C E := by
  cases m <;> first | exact h | (rename_i z; exact z.elim)
theorem o_bind {m : O ρ lam α} {f : α → O ρ lam β} (h : Out m (fun a => Out (f a) N' T B C E) T B C E) : Out (m.bind f) N' T B C E := by
  cases m <;> exact h
theorem o_lt {e : γ} {f : γ → O ρ lam α} (h : Out (f e) N T B C E) : Out (lt e f) N T B C E := h
theorem o_ite {b : Bool} {m1 m2 : O ρ lam α} (h1 : b = true → Out m1 N T B C E) (h2 : b = false → Out m2 N T B C E) : Out (if b then m1 else m2) N T B C E := by
  cases b with
  | true => exact h1 rfl
  | false => exact h2 rfl
theorem o_nx {a : α} (h : N a) : Out (.nx a : O ρ lam α) N T B C E := h
theorem o_rt {a : ρ} (h : T a) : Out (.rt a : O ρ lam α) N T B C E := h
theorem o_er {a : Er} (h : E a) : Out (.er a : O ρ lam α) N T B C E := h
theorem o_fin {m : O ρ Empty α} {d : α → R ρ} {N : ρ → Prop} (h : Out m (fun a => OutR (d a) N E) N (fun _ => True) (fun _ => True) E) : OutR (fin m d) N E := by
  cases m <;> first | exact h | (rename_i z; exact z.elim)
theorem o_gd {c : Bool} {a : α} (h : c = true) (k : N a) : OutR (gd c a) N E := by
  rw [gd_true h]
  exact k
theorem o_eq {m : R α} {a : α} (h : m = .nx a) (k : N a) : OutR m N E := by
  rw [h]
  exact k
theorem o_val {m : R α} (h : OutR m N (fun _ => False)) : ∃ a, m = .nx a ∧ N a := by
  cases m with
  | nx a => exact ⟨a, rfl, h⟩
  | rt r => exact r.elim
  | bk r => exact r.elim
  | ct r => exact r.elim
  | er x => exact h.elim
  | stuck => exact h.elim
theorem o_forO {f : σ → β → O ρ σ σ} {N : σ → Prop} (I : Nat → σ → Prop) : ∀ {xs : List β} {k : Nat} {s : σ}, I k s → (∀ i s x, xs[i]? = some x → I (k + i) s → Out (f s x) (I (k + i + 1)) T N (I (k + i + 1)) E) → (∀ s, I (k + xs.length) s → N s) → Out (forO f xs s : O ρ lam σ) N T B C E
  | [], k, s, h0, _, hk => hk s h0
  | x :: xs, k, s, h0, h, hk => by
    have q := h 0 s x rfl h0
    have go : ∀ s', I (k + 1) s' → Out (forO f xs s' : O ρ lam σ) N T B C E := fun s' h1 => o_forO I (k := k + 1) h1 (fun i s y hy hi => by
      have q := h (i + 1) s y (by simpa using hy) (by rw [show k + (i + 1) = k + 1 + i by omega]; exact hi)
      rw [show k + (i + 1) + 1 = k + 1 + i + 1 by omega] at q
      exact q) fun s hs => hk s (by rw [List.length_cons, show k + (xs.length + 1) = k + 1 + xs.length by omega]; exact hs)
    show Out (match f s x with
      | .nx s' => forO f xs s' | .ct s' => forO f xs s' | .bk s' => .nx s' | .rt r => .rt r | .er x => .er x | .stuck => .stuck) N T B C E
    cases e : f s x <;> rw [e] at q
    · exact go _ q
    · exact q
    · exact q
    · exact go _ q
    · exact q
    · exact q
theorem o_for {f : σ → β → O ρ σ σ} {N : σ → Prop} (I : Nat → σ → Prop) {xs : List β} {s : σ} (h0 : I 0 s) (h : ∀ i s x, xs[i]? = some x → I i s → Out (f s x) (I (i + 1)) T N (I (i + 1)) E) (hk : ∀ s, I xs.length s → N s) : Out (forO f xs s : O ρ lam σ) N T B C E :=
  o_forO I (k := 0) h0 (fun i s x hx hi => by rw [Nat.zero_add] at hi ⊢; exact h i s x hx hi) fun s hs => by rw [Nat.zero_add] at hs; exact hk s hs
theorem o_while {c : σ → R (σ × Bool)} {f : σ → O ρ σ σ} {N : σ → Prop} (I : σ → Prop) (m : σ → Nat) (h : ∀ s, I s → OutR (c s) (fun sb => (sb.2 = false → N sb.1) ∧ (sb.2 = true → Out (f sb.1) (fun s' => I s' ∧ m s' < m s) T N (fun s' => I s' ∧ m s' < m s) E)) E) :
    ∀ (n : Nat) (s : σ), I s → m s < n → Out (whileO c f n s : O ρ lam σ) N T B C E
  | 0, s, _, hm => absurd hm (by omega)
  | n + 1, s, hI, hm => by
    unfold whileO
    refine o_bindR ((h s hI).imp (fun sb q => ?_) fun _ q => q)
    cases e : sb.2 with
    | false => exact q.1 e
    | true =>
      have q2 := q.2 e
      rw [if_pos rfl]
      have go : ∀ s', (I s' ∧ m s' < m s) → Out (whileO c f n s' : O ρ lam σ) N T B C E := fun s' z => o_while I m h n s' z.1 (by omega)
      cases e3 : f sb.1 <;> rw [e3] at q2
      · exact go _ q2
      · exact q2
      · exact q2
      · exact go _ q2
      · exact q2
      · exact q2
theorem o_lcR {s : σ} {f : σ → β → R (σ × Option γ)} {xs : List β} {N : σ × List γ → Prop} (g : β → γ) (h : ∀ b, b ∈ xs → OutR (f s b) (fun r => r = (s, some (g b))) (fun _ => False)) (hl : xs.length ≤ 1000000) (hk : N (s, xs.map g)) : OutR (lcR f xs s []) N E := by
  refine o_eq (lcR_map g xs [] (fun b hb => ?_) (by simpa using hl)) (by simpa using hk)
  obtain ⟨r, e, q⟩ := o_val (h b hb)
  rw [e, q]
theorem o_r {m : R α} (h : Out m N (fun _ => True) (fun _ => True) (fun _ => True) E) : OutR m N E := h.outR
end
end Gv

set_option Elab.async false
set_option linter.all false
set_option maxRecDepth 100000
set_option maxHeartbeats 4000000
/-! the mirrors of the text's defs -/
namespace Lw
open PySem L2 Gv
def sub_BadNumber (nm : Str) : Option Bool := if nm = "BadNumber" then some true else if nm = "TooMany" then some false else none
def sub_TooMany (nm : Str) : Option Bool := if nm = "BadNumber" then some false else if nm = "TooMany" then some true else none
def m_is_whole (a : PyData) : O Bool Empty Empty :=
.rt ((isA "int" a) && (!(isA "bool" a)))
def f_is_whole (a : PyData) : R Bool := fin (m_is_whole a) fun z => z.elim
def m_whole_in (a : (PyData × Int × Int)) : O Bool Empty Empty :=
O.bind (bindR (f_is_whole a.1) fun r2 =>
if r2 then (bindR (intD a.1) fun t3 =>
.nx (decide (a.2.1 ≤ t3) && decide (t3 ≤ a.2.2))) else (.nx false)) fun (j1 : Bool) =>
.rt j1
def f_whole_in (a : (PyData × Int × Int)) : R Bool := fin (m_whole_in a) fun z => z.elim
def m_check_jobs (a : PyData) : O Unit Empty Unit :=
if (!(isA "list" a || isA "tuple" a)) then (.er ⟨"BadNumber", [("word", (PyData.str ("jobs" : Str)))]⟩) else (bindR (lenD a) fun t1 =>
if (decide ((5 : Int) < t1)) then (.er ⟨"TooMany", [("limit", (PyData.int (5 : Int)))]⟩) else (bindR (itemsD a) fun l2 =>
(forO (fun (s3 : Unit) (b4 : PyData) =>
O.bind (if (!(isA "list" b4 || isA "tuple" b4)) then (.nx true) else (bindR (lenD b4) fun t6 =>
if (!decide (t6 = (3 : Int))) then (.nx true) else (bindR (atD b4 (0 : Int)) fun t7 =>
bindR (f_whole_in (t7, (1 : Int), (12 : Int))) fun r8 =>
.nx (!r8)))) fun (j5 : Bool) =>
if j5 then (.er ⟨"BadNumber", [("word", (PyData.str ("jobs" : Str)))]⟩) else (O.bind (bindR (atD b4 (1 : Int)) fun t10 =>
bindR (f_whole_in (t10, (1 : Int), (24 : Int))) fun r11 =>
if (!r11) then (.nx true) else (bindR (atD b4 (2 : Int)) fun t12 =>
bindR (atD b4 (1 : Int)) fun t13 =>
bindR (intD t13) fun t14 =>
bindR (f_whole_in (t12, (0 : Int), (t14 - (1 : Int)))) fun r15 =>
.nx (!r15))) fun (j9 : Bool) =>
if j9 then (.er ⟨"BadNumber", [("word", (PyData.str ("jobs" : Str)))]⟩) else (.nx ()))) l2 ()).bind fun (s3 : Unit) =>
.nx ()))
def f_check_jobs (a : PyData) : R Unit := fin (m_check_jobs a) .nx
def m_check_job_place (a : (PyData × Int)) : O Unit Empty Unit :=
bindR (lenD a.1) fun t1 =>
bindR (f_whole_in ((PyData.int a.2), (0 : Int), (t1 - (1 : Int)))) fun r2 =>
if (!r2) then (.er ⟨"BadNumber", [("word", (PyData.str ("place" : Str)))]⟩) else (.nx ())
def f_check_job_place (a : (PyData × Int)) : R Unit := fin (m_check_job_place a) .nx
def m_rows_of_response (a : (PyData × Int)) : O (List Int) Empty Empty :=
bindR (f_check_jobs a.1) fun r1 =>
bindR (f_check_job_place (a.1, a.2)) fun r2 =>
bindR (atD a.1 a.2) fun t3 =>
bindR (unp3 t3) fun q4 =>
bindR (intD q4.1) fun t5 =>
bindR (intD q4.2.1) fun t6 =>
lt ([t5]) fun (found_7 : (List Int)) =>
(whileO (fun (s8 : (List Int)) =>
bindR (idx s8 (-(1 : Int))) fun t9 =>
.nx (s8, (decide (t9 ≤ t6)))) (fun (s8 : (List Int)) =>
bindR (cutD a.1 none (some a.2)) fun t10 =>
bindR (itemsD t10) fun l11 =>
bindR (lcR (fun (s13 : Unit) (b12 : PyData) =>
bindR (atD b12 (0 : Int)) fun t15 =>
bindR (idx s8 (-(1 : Int))) fun t16 =>
bindR (atD b12 (1 : Int)) fun t17 =>
bindR (intD t17) fun t18 =>
bindR (divR (-t16) t18) fun t19 =>
bindR (intD t15) fun t20 =>
bindR (mulR t20 (-t19)) fun t21 =>
.nx ((), some t21)) l11 () []) fun r14 =>
lt (t5 + (r14.2).sum) fun (total_22 : Int) =>
bindR (idx s8 (-(1 : Int))) fun t23 =>
if (decide (total_22 = t23)) then (.rt s8) else (bindR (appR s8 total_22) fun ys24 =>
.nx ys24)) 100000 found_7).bind fun (s8 : (List Int)) =>
.rt s8
def f_rows_of_response (a : (PyData × Int)) : R (List Int) := fin (m_rows_of_response a) fun z => z.elim
def m_response (a : (PyData × Int)) : O (Option Int) Empty Empty :=
bindR (f_rows_of_response (a.1, a.2)) fun r1 =>
bindR (idx r1 (-(1 : Int))) fun t2 =>
O.bind (bindR (atD a.1 a.2) fun t4 =>
bindR (atD t4 (1 : Int)) fun t5 =>
bindR (intD t5) fun t6 =>
if (decide (t2 ≤ t6)) then (.nx (some t2)) else (.nx none)) fun (j3 : (Option Int)) =>
.rt j3
def f_response (a : (PyData × Int)) : R (Option Int) := fin (m_response a) fun z => z.elim
def m_never_misses (a : PyData) : O Bool Empty Empty :=
bindR (f_check_jobs a) fun r1 =>
bindR (lenD a) fun t2 =>
bindR (rngR 0 t2) fun l3 =>
bindR (lcR (fun (s5 : Unit) (b4 : Int) =>
bindR (f_response (a, b4)) fun r7 =>
.nx ((), some (!(r7).isNone))) l3 () []) fun r6 =>
.rt ((r6.2).all id)
def f_never_misses (a : PyData) : R Bool := fin (m_never_misses a) fun z => z.elim
def m_by_periods (a : PyData) : O (List Int) Empty Empty :=
bindR (f_check_jobs a) fun r1 =>
bindR (itemsD a) fun l2 =>
bindR (lcR (fun (s4 : Unit) (b3 : (Int × PyData)) =>
bindR (atD b3.2 (1 : Int)) fun t6 =>
bindR (intD t6) fun t7 =>
.nx ((), some (t7, b3.1))) (enumL l2) () []) fun r5 =>
lt (sortP r5.2) fun (pairs_8 : (List (Int × Int))) =>
bindR (lcR (fun (s10 : Unit) (b9 : (Int × Int)) =>
.nx ((), some b9.2)) pairs_8 () []) fun r11 =>
.rt r11.2
def f_by_periods (a : PyData) : R (List Int) := fin (m_by_periods a) fun z => z.elim
def m_load (a : PyData) : O (Int × Int) Empty Empty :=
bindR (f_check_jobs a) fun r1 =>
bindR (itemsD a) fun l2 =>
(forO (fun (s3 : (Int × Int)) (b4 : PyData) =>
bindR (unp3 b4) fun q5 =>
bindR (intD q5.1) fun t6 =>
bindR (intD q5.2.1) fun t7 =>
bindR (mulR s3.1 t7) fun t8 =>
bindR (mulR t6 s3.2) fun t9 =>
bindR (mulR s3.2 t7) fun t10 =>
lt (gcdI (t8 + t9) t10) fun (common_11 : Int) =>
bindR (divR (t8 + t9) common_11) fun t12 =>
bindR (divR t10 common_11) fun t13 =>
.nx (t12, t13)) l2 (((0 : Int), (1 : Int)).1, ((0 : Int), (1 : Int)).2)).bind fun (s3 : (Int × Int)) =>
.rt (s3.1, s3.2)
def f_load (a : PyData) : R (Int × Int) := fin (m_load a) fun z => z.elim
def m_law_numbers (a : (List Int)) : O (List Int) Empty Empty :=
lt ([]) fun (numbers_1 : (List Int)) =>
bindR (rngR 0 (minI ((a).length : Int) (63 : Int))) fun l2 =>
(forO (fun (s3 : (List Int)) (b4 : Int) =>
bindR (idx a b4) fun t5 =>
lt (0 : Int) fun (turned_6 : Int) =>
O.bind (if (decide (t5 < (0 : Int))) then (lt ((0 : Int) - t5) fun (cell_8 : Int) =>
lt (1 : Int) fun (turned_9 : Int) =>
.nx (cell_8, turned_9)) else (.nx (t5, turned_6))) fun (s7 : (Int × Int)) =>
if (decide (((10 : Int) ^ ((18 : Int)).toNat) ≤ s7.1)) then (bindR (rngR 0 (45 : Int)) fun l10 =>
(forO (fun (s11 : ((List Int) × Int)) (b12 : Int) =>
if (decide ((0 : Int) < s11.2)) then (bindR (appR s11.1 (s11.2 % (60 : Int))) fun ys13 =>
lt (s11.2 / (60 : Int)) fun (cell_14 : Int) =>
.nx (ys13, cell_14)) else (.nx (s11.1, s11.2))) l10 (s3, s7.1)).bind fun (s11 : ((List Int) × Int)) =>
.nx s11.1) else (lt (((((s7.1 * (16807 : Int)) + (b4 * (7919 : Int))) + (s7.2 * (104729 : Int))) + (11 : Int)) % (2147483629 : Int)) fun (seed_15 : Int) =>
bindR (rngR 0 (7 : Int)) fun l16 =>
(forO (fun (s17 : ((List Int) × Int)) (b18 : Int) =>
bindR (mulR (s17.2 / (1000 : Int)) b18) fun t19 =>
lt ((((s17.2 * (39373 : Int)) + t19) + (7919 : Int)) % (2147483629 : Int)) fun (seed_20 : Int) =>
bindR (appR s17.1 ((seed_20 / (7 : Int)) % (55440 : Int))) fun ys21 =>
.nx (ys21, seed_20)) l16 (s3, seed_15)).bind fun (s17 : ((List Int) × Int)) =>
.nx s17.1)) l2 numbers_1).bind fun (s3 : (List Int)) =>
lt (List.reverse s3) fun (ys22 : (List Int)) =>
.rt ys22
def f_law_numbers (a : (List Int)) : R (List Int) := fin (m_law_numbers a) fun z => z.elim
def m_law_draw (a : ((List Int) × Int)) : O (Int × (List Int)) Empty Empty :=
if (decide (((a.1).length : Int) = (0 : Int))) then (.rt ((0 : Int), a.1)) else (bindR (popR a.1) fun t1 =>
bindR (modR t1.1 a.2) fun t2 =>
.rt (t2, t1.2))
def f_law_draw (a : ((List Int) × Int)) : R (Int × (List Int)) := fin (m_law_draw a) fun z => z.elim
def m_law_int (a : PyData) : O Bool Empty Empty :=
.rt ((isA "int" a) && (!(isA "bool" a)))
def f_law_int (a : PyData) : R Bool := fin (m_law_int a) fun z => z.elim
def m_law_any_jobs (a : (List Int)) : O ((List (Int × Int × Int)) × (List Int)) Empty Empty :=
lt ([]) fun (jobs_1 : (List (Int × Int × Int))) =>
bindR (f_law_draw (a, (5 : Int))) fun r2 =>
bindR (rngR 0 r2.1) fun l3 =>
(forO (fun (s4 : ((List Int) × (List (Int × Int × Int)))) (b5 : Int) =>
bindR (f_law_draw (s4.1, (24 : Int))) fun r6 =>
bindR (f_law_draw (r6.2, (2 : Int))) fun r7 =>
bindR (idx ([(24 : Int), (6 : Int)]) r7.1) fun t8 =>
bindR (modR r6.1 t8) fun t9 =>
lt ((1 : Int) + t9) fun (period_10 : Int) =>
bindR (f_law_draw (r7.2, (6 : Int))) fun r11 =>
bindR (f_law_draw (r11.2, period_10)) fun r12 =>
bindR (appR s4.2 (((1 : Int) + r11.1), period_10, r12.1)) fun ys13 =>
.nx (r12.2, ys13)) l3 (r2.2, jobs_1)).bind fun (s4 : ((List Int) × (List (Int × Int × Int)))) =>
.rt (s4.2, s4.1)
def f_law_any_jobs (a : (List Int)) : R ((List (Int × Int × Int)) × (List Int)) := fin (m_law_any_jobs a) fun z => z.elim
def m_law_dividing (a : (List Int)) : O ((List (Int × Int × Int)) × (List Int)) Empty Empty :=
lt ([]) fun (jobs_1 : (List (Int × Int × Int))) =>
bindR (f_law_draw (a, (6 : Int))) fun r2 =>
lt ((1 : Int) + r2.1) fun (period_3 : Int) =>
bindR (f_law_draw (r2.2, (4 : Int))) fun r4 =>
bindR (rngR 0 ((1 : Int) + r4.1)) fun l5 =>
(forO (fun (s6 : ((List Int) × (List (Int × Int × Int)) × Int)) (b7 : Int) =>
bindR (f_law_draw (s6.1, (12 : Int))) fun r8 =>
bindR (modR r8.1 (maxI (1 : Int) (s6.2.2 / (2 : Int)))) fun t9 =>
lt ((1 : Int) + t9) fun (rungs_10 : Int) =>
bindR (f_law_draw (r8.2, s6.2.2)) fun r11 =>
bindR (appR s6.2.1 ((minI rungs_10 (12 : Int)), s6.2.2, r11.1)) fun ys12 =>
bindR (f_law_draw (r11.2, (3 : Int))) fun r13 =>
bindR (mulR s6.2.2 ((1 : Int) + r13.1)) fun t14 =>
if (decide (t14 ≤ (24 : Int))) then (.nx (r13.2, ys12, t14)) else (.nx (r13.2, ys12, s6.2.2))) l5 (r4.2, jobs_1, period_3)).bind fun (s6 : ((List Int) × (List (Int × Int × Int)) × Int)) =>
bindR (idx s6.2.1 (((s6.2.1).length : Int) - (1 : Int))) fun t15 =>
(forO (fun (s16 : Int) (b17 : (Int × Int × Int)) =>
bindR (idx s6.2.1 (((s6.2.1).length : Int) - (1 : Int))) fun t18 =>
bindR (divR t18.2.1 b17.2.1) fun t19 =>
bindR (mulR b17.1 t19) fun t20 =>
lt (s16 - t20) fun (left_21 : Int) =>
.nx left_21) (cutL s6.2.1 none (some (((s6.2.1).length : Int) - (1 : Int)))) t15.2.1).bind fun (s16 : Int) =>
bindR (f_law_draw (s6.1, (4 : Int))) fun r22 =>
bindR (idx ([(0 : Int), (1 : Int), (-(1 : Int)), (0 : Int)]) r22.1) fun t23 =>
lt (s16 + t23) fun (rungs_24 : Int) =>
O.bind (if (decide ((1 : Int) ≤ rungs_24) && decide (rungs_24 ≤ (12 : Int))) then (bindR (idx s6.2.1 (((s6.2.1).length : Int) - (1 : Int))) fun t26 =>
bindR (idx s6.2.1 (((s6.2.1).length : Int) - (1 : Int))) fun t27 =>
bindR (setR s6.2.1 (((s6.2.1).length : Int) - (1 : Int)) (rungs_24, t26.2.1, t27.2.2)) fun ys28 =>
.nx ys28) else (.nx s6.2.1)) fun (s25 : (List (Int × Int × Int))) =>
.rt (s25, r22.2)
def f_law_dividing (a : (List Int)) : R ((List (Int × Int × Int)) × (List Int)) := fin (m_law_dividing a) fun z => z.elim
def m_law_lowest (a : (Int × Int)) : O (Int × Int) Empty Empty :=
bindR (rngR 0 (100 : Int)) fun l1 =>
(forO (fun (s2 : (Int × Int)) (b3 : Int) =>
if (decide ((0 : Int) < s2.2)) then (bindR (modR s2.1 s2.2) fun t4 =>
.nx (s2.2, t4)) else (.nx (s2.1, s2.2))) l1 (a.1, a.2)).bind fun (s2 : (Int × Int)) =>
bindR (divR a.1 s2.1) fun t5 =>
bindR (divR a.2 s2.1) fun t6 =>
.rt (t5, t6)
def f_law_lowest (a : (Int × Int)) : R (Int × Int) := fin (m_law_lowest a) fun z => z.elim
def m_law_load (a : (List (Int × Int × Int))) : O (Int × Int) Empty Empty :=
lt (0 : Int) fun (n_1 : Int) =>
lt (1 : Int) fun (d_2 : Int) =>
(forO (fun (s3 : (Int × Int)) (b4 : (Int × Int × Int)) =>
bindR (mulR s3.1 b4.2.1) fun t5 =>
bindR (mulR b4.1 s3.2) fun t6 =>
lt (t5 + t6) fun (n_7 : Int) =>
bindR (mulR s3.2 b4.2.1) fun t8 =>
.nx (n_7, t8)) a (n_1, d_2)).bind fun (s3 : (Int × Int)) =>
bindR (f_law_lowest (s3.1, s3.2)) fun r9 =>
.rt r9
def f_law_load (a : (List (Int × Int × Int))) : R (Int × Int) := fin (m_law_load a) fun z => z.elim
def m_law_well (a : (List (Int × Int × Int))) : O Bool Empty Empty :=
bindR (rngR 0 ((a).length : Int)) fun l1 =>
(forO (fun (s2 : Unit) (b3 : Int) =>
bindR (idx a b3) fun t4 =>
bindR (rngR 0 (60 : Int)) fun l5 =>
(forO (fun (s6 : (Int × Bool)) (b7 : Int) =>
O.bind (if (!s6.2) then (bindR (idx a b3) fun t9 =>
.nx (decide (s6.1 ≤ t9.2.1))) else (.nx false)) fun (j8 : Bool) =>
if j8 then (bindR (idx a b3) fun t10 =>
bindR (rngR 0 b3) fun l11 =>
(forO (fun (s12 : Int) (b13 : Int) =>
bindR (idx a b13) fun t14 =>
bindR (idx a b13) fun t15 =>
bindR (idx a b13) fun t16 =>
bindR (divR ((s6.1 + t15.2.1) - (1 : Int)) t16.2.1) fun t17 =>
bindR (mulR t14.1 t17) fun t18 =>
lt (s12 + t18) fun (total_19 : Int) =>
.nx total_19) l11 t10.1).bind fun (s12 : Int) =>
lt (decide (s12 = s6.1)) fun (still_20 : Bool) =>
.nx (s12, still_20)) else (.nx (s6.1, s6.2))) l5 (t4.1, false)).bind fun (s6 : (Int × Bool)) =>
if (!s6.2) then (.rt false) else (.nx ())) l1 ()).bind fun (s2 : Unit) =>
.rt true
def f_law_well (a : (List (Int × Int × Int))) : R Bool := fin (m_law_well a) fun z => z.elim
def m_law_orders (a : Int) : O (List (List Int)) Empty Empty :=
lt ([[]]) fun (orders_1 : (List (List Int))) =>
bindR (rngR 0 a) fun l2 =>
(forO (fun (s3 : (List (List Int))) (b4 : Int) =>
lt ([]) fun (longer_5 : (List (List Int))) =>
(forO (fun (s6 : (List (List Int))) (b7 : (List Int)) =>
bindR (rngR 0 (((b7).length : Int) + (1 : Int))) fun l8 =>
(forO (fun (s9 : (List (List Int))) (b10 : Int) =>
bindR (catR (cutL b7 none (some b10)) ([b4])) fun t11 =>
bindR (catR t11 (cutL b7 (some b10) none)) fun t12 =>
bindR (appR s9 t12) fun ys13 =>
.nx ys13) l8 s6).bind fun (s9 : (List (List Int))) =>
.nx s9) s3 longer_5).bind fun (s6 : (List (List Int))) =>
.nx s6) l2 orders_1).bind fun (s3 : (List (List Int))) =>
.rt s3
def f_law_orders (a : Int) : R (List (List Int)) := fin (m_law_orders a) fun z => z.elim
def m_law_by_periods (a : (List (Int × Int × Int))) : O (List Int) Empty Empty :=
lt ([]) fun (order_1 : (List Int)) =>
bindR (rngR (1 : Int) (25 : Int)) fun l2 =>
(forO (fun (s3 : (List Int)) (b4 : Int) =>
bindR (rngR 0 ((a).length : Int)) fun l5 =>
(forO (fun (s6 : (List Int)) (b7 : Int) =>
bindR (idx a b7) fun t8 =>
if (decide (t8.2.1 = b4)) then (bindR (appR s6 b7) fun ys9 =>
.nx ys9) else (.nx s6)) l5 s3).bind fun (s6 : (List Int)) =>
.nx s6) l2 order_1).bind fun (s3 : (List Int)) =>
.rt s3
def f_law_by_periods (a : (List (Int × Int × Int))) : R (List Int) := fin (m_law_by_periods a) fun z => z.elim
def m_law_refused (a : (Int × PyData)) : O Str Empty Empty :=
lt ("" : Str) fun (told_1 : Str) =>
O.bind (tryO (if (decide (a.1 = (0 : Int))) then (bindR (f_load a.2) fun r4 =>
.nx told_1) else (if (decide (a.1 = (1 : Int))) then (bindR (f_by_periods a.2) fun r5 =>
.nx told_1) else (bindR (f_never_misses a.2) fun r6 =>
.nx told_1))) (clO sub_BadNumber (fun x2 => bindR (fldR x2 "BadNumber" "word") fun t7 =>
bindR (strD t7) fun t8 =>
.nx t8) (clO sub_TooMany (fun x2 => bindR (fldR x2 "TooMany" "limit") fun t9 =>
bindR (intD t9) fun t11 =>
bindR (strR t11) fun t10 =>
.nx t10) (fun x => .er x)))) fun (s3 : Str) =>
.rt s3
def f_law_refused (a : (Int × PyData)) : R Str := fin (m_law_refused a) fun z => z.elim
def m_law_refusals_fit (a : ((List Int) × (List (Int × Int × Int)))) : O (Bool × (List Int)) Empty Empty :=
bindR (f_law_draw (a.1, (((a.2).length : Int) + (1 : Int)))) fun r1 =>
bindR (rngR 0 (3 : Int)) fun l2 =>
(forO (fun (s3 : Unit) (b4 : Int) =>
(forO (fun (s5 : Unit) (b6 : PyData) =>
bindR (catR (List.map (dP3 PyData.int PyData.int PyData.int) (cutL a.2 none (some r1.1))) ([b6])) fun t7 =>
bindR (catR t7 (List.map (dP3 PyData.int PyData.int PyData.int) (cutL a.2 (some r1.1) none))) fun t8 =>
bindR (f_law_refused (b4, ((dT id) t8))) fun r9 =>
if (!decide (r9 = ("jobs" : Str))) then (.rt (false, r1.2)) else (.nx ())) ([((dP3 PyData.int PyData.int PyData.int) ((0 : Int), (4 : Int), (0 : Int))), ((dP3 PyData.int PyData.int PyData.int) ((13 : Int), (24 : Int), (0 : Int))), ((dP3 PyData.int PyData.int PyData.int) ((1 : Int), (25 : Int), (0 : Int))), ((dP3 PyData.int PyData.int PyData.int) ((1 : Int), (0 : Int), (0 : Int))), ((dP3 PyData.int PyData.int PyData.int) ((1 : Int), (4 : Int), (4 : Int))), ((dP3 PyData.int PyData.int PyData.int) ((1 : Int), (4 : Int), (-(1 : Int)))), ((dP2 PyData.int PyData.int) ((1 : Int), (4 : Int))), (PyData.int (3 : Int))]) ()).bind fun (s5 : Unit) =>
O.bind (bindR (repR ([((1 : Int), (6 : Int), (0 : Int))]) (6 : Int)) fun t11 =>
bindR (f_law_refused (b4, ((dT (dP3 PyData.int PyData.int PyData.int)) t11))) fun r12 =>
if (!decide (r12 = ("5" : Str))) then (.nx true) else (bindR (f_law_refused (b4, (PyData.int (7 : Int)))) fun r13 =>
.nx (!decide (r13 = ("jobs" : Str))))) fun (j10 : Bool) =>
if j10 then (.rt (false, r1.2)) else (O.bind (bindR (repR ([((1 : Int), (24 : Int), (23 : Int))]) (5 : Int)) fun t15 =>
bindR (f_law_refused (b4, ((dT (dP3 PyData.int PyData.int PyData.int)) t15))) fun r16 =>
if (!decide (r16 = ("" : Str))) then (.nx true) else (bindR (f_law_refused (b4, ((dT (dP3 PyData.int PyData.int PyData.int)) a.2))) fun r17 =>
.nx (!decide (r17 = ("" : Str))))) fun (j14 : Bool) =>
if j14 then (.rt (false, r1.2)) else (.nx ()))) l2 ()).bind fun (s3 : Unit) =>
.rt (true, r1.2)
def f_law_refusals_fit (a : ((List Int) × (List (Int × Int × Int)))) : R (Bool × (List Int)) := fin (m_law_refusals_fit a) fun z => z.elim
def m_law (a : (List Int)) : O Bool Empty Empty :=
bindR (f_law_numbers a) fun r1 =>
bindR (f_law_draw (r1, (2 : Int))) fun r2 =>
lt (decide (r2.1 = (1 : Int))) fun (dividing_3 : Bool) =>
O.bind (if dividing_3 then (bindR (f_law_dividing r2.2) fun r5 =>
.nx (r5.2, r5.1)) else (bindR (f_law_any_jobs r2.2) fun r6 =>
.nx (r6.2, r6.1))) fun (s4 : ((List Int) × (List (Int × Int × Int)))) =>
bindR (f_law_load s4.2) fun r7 =>
bindR (f_load ((dT (dP3 PyData.int PyData.int PyData.int)) s4.2)) fun r8 =>
O.bind (if (!(isA "tuple" ((dP2 PyData.int PyData.int) r8))) then (.nx true) else (if (!decide (r8 = r7)) then (.nx true) else (bindR (f_law_int (PyData.int r8.1)) fun r10 =>
if (!r10) then (.nx true) else (bindR (f_law_int (PyData.int r8.2)) fun r11 =>
.nx (!r11))))) fun (j9 : Bool) =>
if j9 then (.rt false) else (bindR (f_by_periods ((dT (dP3 PyData.int PyData.int PyData.int)) s4.2)) fun r12 =>
O.bind (if (!(isA "tuple" ((dT PyData.int) r12))) then (.nx true) else (bindR (f_law_by_periods s4.2) fun r14 =>
.nx (!decide (r12 = r14)))) fun (j13 : Bool) =>
if j13 then (.rt false) else (bindR (f_law_orders ((s4.2).length : Int)) fun r15 =>
(forO (fun (s16 : Bool) (b17 : (List Int)) =>
bindR (lcR (fun (s19 : Unit) (b18 : Int) =>
bindR (idx s4.2 b18) fun t21 =>
.nx ((), some t21)) b17 () []) fun r20 =>
bindR (f_law_well r20.2) fun r22 =>
lt (s16 || r22) fun (some_23 : Bool) =>
bindR (f_never_misses ((dT (dP3 PyData.int PyData.int PyData.int)) r20.2)) fun r24 =>
if ((!(isA "bool" (PyData.bool r24))) || (!decide (r24 = r22))) then (.rt false) else (.nx some_23)) r15 false).bind fun (s16 : Bool) =>
bindR (f_by_periods ((dT (dP3 PyData.int PyData.int PyData.int)) s4.2)) fun r25 =>
bindR (lcR (fun (s27 : Unit) (b26 : Int) =>
bindR (idx s4.2 b26) fun t29 =>
.nx ((), some t29)) r25 () []) fun r28 =>
bindR (f_never_misses ((dT (dP3 PyData.int PyData.int PyData.int)) r28.2)) fun r30 =>
if (!decide (r30 = s16)) then (.rt false) else (O.bind (if dividing_3 then (bindR (f_never_misses ((dT (dP3 PyData.int PyData.int PyData.int)) s4.2)) fun r32 =>
.nx (!decide (r32 = (decide (r7.1 ≤ r7.2))))) else (.nx false)) fun (j31 : Bool) =>
if j31 then (.rt false) else (bindR (lcR (fun (s34 : Unit) (b33 : (Int × Int × Int)) =>
.nx ((), some ([b33.1, b33.2.1, b33.2.2]))) s4.2 () []) fun r35 =>
bindR (f_never_misses ((dL (dL PyData.int)) r35.2)) fun r36 =>
bindR (f_never_misses ((dT (dP3 PyData.int PyData.int PyData.int)) s4.2)) fun r37 =>
if (!decide (r36 = r37)) then (.rt false) else (O.bind (bindR (lcR (fun (s40 : Unit) (b39 : (Int × Int × Int)) =>
.nx ((), some ([b39.1, b39.2.1, b39.2.2]))) s4.2 () []) fun r41 =>
bindR (f_load ((dL (dL PyData.int)) r41.2)) fun r42 =>
if (decide (r42 = r7)) then (bindR (f_law_refusals_fit (s4.1, s4.2)) fun r43 =>
.nx (r43.1, r43.2)) else (.nx (false, s4.1))) fun (j38 : (Bool × (List Int))) =>
.rt j38.1)))))
def f_law (a : (List Int)) : R Bool := fin (m_law a) fun z => z.elim
end Lw

set_option Elab.async false
set_option linter.all false
set_option maxRecDepth 100000
set_option maxHeartbeats 1000000
/-! k78: the plain law -/
namespace Lw
open PySem L2 Gv
abbrev Job := Int × Int × Int
def JD (d : PyData) (j : Job) : Prop := d = .tuple [.int j.1, .int j.2.1, .int j.2.2] ∨ d = .list [.int j.1, .int j.2.1, .int j.2.2]
def okJ (j : Job) : Prop := 1 ≤ j.1 ∧ j.1 ≤ 12 ∧ 1 ≤ j.2.1 ∧ j.2.1 ≤ 24 ∧ 0 ≤ j.2.2 ∧ j.2.2 < j.2.1
/-- d is a list or tuple of these jobs, each a list or tuple -/
structure JsD (d : PyData) (ds : List PyData) (js : List Job) : Prop where
  is : d = .tuple ds ∨ d = .list ds
  len : ds.length = js.length
  at_ : ∀ (i : Nat) (x : PyData), ds[i]? = some x → ∃ j, js[i]? = some j ∧ JD x j
theorem whole_in (x lo hi : Int) : f_whole_in (.int x, lo, hi) = .nx (decide (lo ≤ x) && decide (x ≤ hi)) := rfl
theorem whole_in_ok {x lo hi : Int} (h : lo ≤ x ∧ x ≤ hi) : f_whole_in (.int x, lo, hi) = .nx true := by
  rw [whole_in, decide_eq_true h.1, decide_eq_true h.2]; rfl
theorem JsD.items {d : PyData} {ds : List PyData} {js : List Job} (h : JsD d ds js) : itemsD d = .nx ds := by
  rcases h.is with rfl | rfl <;> rfl
theorem JsD.lenD {d : PyData} {ds : List PyData} {js : List Job} (h : JsD d ds js) : Gv.lenD d = .nx (js.length : Int) := by
  rw [← h.len]
  rcases h.is with rfl | rfl <;> rfl
theorem JsD.seq {d : PyData} {ds : List PyData} {js : List Job} (h : JsD d ds js) : (!(isA "list" d || isA "tuple" d)) = false := by
  rcases h.is with rfl | rfl <;> rfl
theorem JD.seq {d : PyData} {j : Job} (h : JD d j) : (!(isA "list" d || isA "tuple" d)) = false := by
  rcases h with rfl | rfl <;> rfl
theorem JD.len {d : PyData} {j : Job} (h : JD d j) : lenD d = .nx 3 := by
  rcases h with rfl | rfl <;> rfl
theorem JD.a0 {d : PyData} {j : Job} (h : JD d j) : atD d 0 = .nx (.int j.1) := by
  rcases h with rfl | rfl <;> rfl
theorem JD.a1 {d : PyData} {j : Job} (h : JD d j) : atD d 1 = .nx (.int j.2.1) := by
  rcases h with rfl | rfl <;> rfl
theorem JD.a2 {d : PyData} {j : Job} (h : JD d j) : atD d 2 = .nx (.int j.2.2) := by
  rcases h with rfl | rfl <;> rfl
theorem JD.unp {d : PyData} {j : Job} (h : JD d j) : unp3 d = .nx (.int j.1, .int j.2.1, .int j.2.2) := by
  rcases h with rfl | rfl <;> rfl
theorem intD_int (i : Int) : intD (.int i) = .nx i := rfl
section
variable {d : PyData} {ds : List PyData} {js : List Job}
/-- the check of one job -/
theorem check_ok (h : JsD d ds js) (hok : ∀ j, j ∈ js → okJ j) (hl : js.length ≤ 5) : f_check_jobs d = .nx () := by
  obtain ⟨u, e, _⟩ := o_val (m := f_check_jobs d) (N := fun _ => True) (by
    refine o_fin ?_
    unfold m_check_jobs
    rw [h.seq, h.lenD, h.items]
    refine o_ite (fun z => nomatch z) fun _ => ?_
    refine o_bindR (o_eq rfl ?_)
    refine o_ite (fun z => absurd (of_decide_eq_true z) (by omega)) fun _ => ?_
    refine o_bindR (o_eq rfl (o_bind ?_))
    refine o_for (fun _ _ => True) trivial (fun i s x hx _ => ?_) fun _ _ => trivial
    obtain ⟨j, hj, hx2⟩ := h.at_ i x hx
    obtain ⟨h1, h2, h3, h4, h5, h6⟩ := hok j (List.mem_of_getElem? hj)
    rw [hx2.seq, hx2.len, hx2.a0, hx2.a1, hx2.a2]
    simp [whole_in_ok (x := j.1) (lo := 1) (hi := 12) ⟨h1, h2⟩, whole_in_ok (x := j.2.1) (lo := 1) (hi := 24) ⟨h3, h4⟩, intD_int, whole_in_ok (x := j.2.2) (lo := 0) (hi := j.2.1 - 1) ⟨h5, by omega⟩]
    trivial)
  exact e
end
/-! ### responses -/
def cl (x T : Int) : Int := -((-x) / T)
theorem cl_eq {x T : Int} (h : 0 < T) : (x + T - 1) / T = cl x T := by
  unfold cl
  have e := Int.mul_ediv_add_emod (-x) T
  have r0 := Int.emod_nonneg (-x) (show T ≠ 0 by omega)
  have r1 := Int.emod_lt_of_pos (-x) h
  have : (x + T - 1) / T = -((-x) / T) ∧ (x + T - 1) % T = T - 1 - (-x) % T := by
    refine (Int.ediv_emod_unique h).mpr ⟨?_, by omega, by omega⟩
    rw [Int.mul_neg]
    omega
  exact this.1
theorem cl_mono {x y T : Int} (h : 0 < T) (hxy : x ≤ y) : cl x T ≤ cl y T := by
  unfold cl
  have : (-y) / T ≤ (-x) / T := Int.ediv_le_ediv h (by omega)
  omega
theorem cl_nonneg {x T : Int} (h : 0 < T) (hx : 0 ≤ x) : 0 ≤ cl x T := by
  have := cl_mono h hx
  have z : cl 0 T = 0 := by unfold cl; simp
  omega
def loadS (hp : List Job) (x : Int) : Int := (hp.map fun u => u.1 * cl x u.2.1).sum
theorem loadS_mono : ∀ {hp : List Job} {x y : Int}, (∀ j, j ∈ hp → okJ j) → x ≤ y → loadS hp x ≤ loadS hp y
  | [], _, _, _, _ => Int.le_refl _
  | u :: hp, x, y, h, hxy => by
    obtain ⟨h1, _, h3, _⟩ := h u List.mem_cons_self
    have a := loadS_mono (hp := hp) (fun j hj => h j (List.mem_cons_of_mem _ hj)) hxy
    have b : u.1 * cl x u.2.1 ≤ u.1 * cl y u.2.1 := Int.mul_le_mul_of_nonneg_left (cl_mono (by omega) hxy) (by omega)
    unfold loadS at a ⊢
    simp only [List.map_cons, List.sum_cons]
    omega
theorem loadS_nonneg : ∀ {hp : List Job} {x : Int}, (∀ j, j ∈ hp → okJ j) → 0 ≤ x → 0 ≤ loadS hp x
  | [], _, _, _ => Int.le_refl _
  | u :: hp, x, h, hx => by
    obtain ⟨h1, _, h3, _⟩ := h u List.mem_cons_self
    have a := loadS_nonneg (hp := hp) (fun j hj => h j (List.mem_cons_of_mem _ hj)) hx
    have b : 0 ≤ u.1 * cl x u.2.1 := Int.mul_nonneg (by omega) (cl_nonneg (by omega) hx)
    unfold loadS at a ⊢
    simp only [List.map_cons, List.sum_cons]
    omega
/-- place i with the job j can always be done in time -/
def Fe (js : List Job) (i : Nat) (j : Job) : Prop := ∃ t, 1 ≤ t ∧ t ≤ j.2.1 ∧ j.1 + loadS (js.take i) t ≤ t
def Feas (js : List Job) : Prop := ∀ (i : Nat) (j : Job), js[i]? = some j → Fe js i j
/-- what the last row is while it grows -/
structure Lo (js : List Job) (i : Nat) (j : Job) (l : Int) : Prop where
  pos : 1 ≤ l
  up : l ≤ j.1 + loadS (js.take i) l
  lb : ∀ t, 1 ≤ t → t ≤ j.2.1 → j.1 + loadS (js.take i) t ≤ t → l ≤ t
section
variable {js : List Job} {i : Nat} {j : Job} {l : Int}
theorem take_ok (hok : ∀ j, j ∈ js → okJ j) : ∀ u, u ∈ js.take i → okJ u := fun u hu => hok u (List.mem_of_mem_take hu)
theorem Lo.start (hok : ∀ j, j ∈ js → okJ j) (hj : okJ j) : Lo js i j j.1 :=
  ⟨hj.1, by have := loadS_nonneg (x := j.1) (take_ok (i := i) hok) (by have := hj.1; omega); omega, fun t h1 _ h3 => by have := loadS_nonneg (x := t) (take_ok (i := i) hok) (by omega); omega⟩
theorem Lo.next (hok : ∀ j, j ∈ js → okJ j) (h : Lo js i j l) : Lo js i j (j.1 + loadS (js.take i) l) :=
  ⟨Int.le_trans h.pos h.up, by have := loadS_mono (take_ok (i := i) hok) h.up; omega, fun t h1 h2 h3 => by
    have := loadS_mono (take_ok (i := i) hok) (h.lb t h1 h2 h3)
    omega⟩
theorem Lo.fe (h : Lo js i j l) (e : j.1 + loadS (js.take i) l = l) (hT : l ≤ j.2.1) : Fe js i j := ⟨l, h.pos, hT, by omega⟩
theorem Lo.nofe (h : Lo js i j l) (hT : j.2.1 < l) : ¬ Fe js i j := fun ⟨t, h1, h2, h3⟩ => by
  have := h.lb t h1 h2 h3
  omega
end
end Lw

set_option Elab.async false
set_option linter.all false
set_option maxRecDepth 100000
set_option maxHeartbeats 1000000
namespace Lw
open PySem L2 Gv
theorem idx_last {α : Type} {s : List α} {l : α} (h : s[s.length - 1]? = some l) : idx s (-1) = .nx l := by
  have hl : s.length - 1 < s.length := (List.getElem?_eq_some_iff.mp h).1
  unfold idx atI ixN
  rw [if_neg (by omega), if_pos (by omega)]
  have e : ((-1 : Int) + (s.length : Int)).toNat = s.length - 1 := by omega
  show (match s[((-1 : Int) + (s.length : Int)).toNat]? with
    | some a => O.nx a
    | none => .stuck) = _
  rw [e, h]
theorem cut_to {α : Type} {xs : List α} {k : Nat} (h : k ≤ xs.length) : cutL xs none (some (k : Int)) = xs.take k := by
  unfold cutL
  have e1 : HT.sIx xs.length 0 none = 0 := rfl
  have e2 : HT.sIx xs.length xs.length (some (k : Int)) = k := by rw [HT.sIx_nat]; omega
  rw [e1, e2, List.drop_zero, Nat.sub_zero]
theorem cut_from {α : Type} {xs : List α} {k : Nat} (h : k ≤ xs.length) : cutL xs (some (k : Int)) none = xs.drop k := by
  unfold cutL
  have e1 : HT.sIx xs.length 0 (some (k : Int)) = k := by rw [HT.sIx_nat]; omega
  have e2 : HT.sIx xs.length xs.length none = xs.length := rfl
  rw [e1, e2]
  exact List.take_of_length_le (by simp)
section
variable {d : PyData} {ds : List PyData} {js : List Job} {i : Nat} {j : Job}
theorem JsD.get (h : JsD d ds js) (hj : js[i]? = some j) : ∃ x, ds[i]? = some x ∧ JD x j ∧ atD d (i : Int) = .nx x := by
  have hi : i < ds.length := by rw [h.len]; exact (List.getElem?_eq_some_iff.mp hj).1
  have e : ds[i]? = some ds[i] := List.getElem?_eq_getElem hi
  obtain ⟨j', hj', hx⟩ := h.at_ i _ e
  rw [hj] at hj'
  cases hj'
  refine ⟨ds[i], e, hx, ?_⟩
  unfold atD
  rw [h.items]
  exact idx_nat e
theorem JsD.cut (h : JsD d ds js) (hi : i ≤ js.length) : ∃ c, cutD d none (some (i : Int)) = .nx c ∧ itemsD c = .nx (ds.take i) := by
  have hi' : i ≤ ds.length := by rw [h.len]; exact hi
  rcases h.is with rfl | rfl
  · exact ⟨.tuple (ds.take i), by show O.nx (PyData.tuple (cutL ds none (some (i : Int)))) = _; rw [cut_to hi'], rfl⟩
  · exact ⟨.list (ds.take i), by show O.nx (PyData.list (cutL ds none (some (i : Int)))) = _; rw [cut_to hi'], rfl⟩
theorem place_ok (h : JsD d ds js) (hi : i < js.length) : f_check_job_place (d, (i : Int)) = .nx () := by
  unfold f_check_job_place m_check_job_place
  rw [h.lenD]
  simp only [bindR_nx]
  rw [whole_in_ok (x := (i : Int)) (lo := 0) (hi := (js.length : Int) - 1) ⟨by omega, by omega⟩]
  rfl
/-- a datum as its job's two numbers -/
def jobOf (x : PyData) : Job := match x with
  | .tuple [.int a, .int b, .int c] => (a, b, c)
  | .list [.int a, .int b, .int c] => (a, b, c)
  | _ => (0, 0, 0)
theorem JD.job {x : PyData} (h : JD x j) : jobOf x = j := by
  rcases h with rfl | rfl <;> rfl
theorem JsD.jobs (h : JsD d ds js) : ds.map jobOf = js := by
  apply List.ext_getElem?
  intro k
  rw [List.getElem?_map]
  cases e : ds[k]? with
  | none =>
    have : js.length ≤ k := by rw [← h.len]; exact List.getElem?_eq_none_iff.mp e
    rw [List.getElem?_eq_none this]
    rfl
  | some x =>
    obtain ⟨j, hj, hx⟩ := h.at_ k x e
    rw [hj]
    show some (jobOf x) = _
    rw [hx.job]
theorem rows_ok (h : JsD d ds js) (hok : ∀ j, j ∈ js → okJ j) (hl : js.length ≤ 5) (hj : js[i]? = some j) :
    OutR (f_rows_of_response (d, (i : Int))) (fun found => ∃ l, found[found.length - 1]? = some l ∧ (l ≤ j.2.1 ↔ Fe js i j)) (fun _ => False) := by
  have hi : i < js.length := (List.getElem?_eq_some_iff.mp hj).1
  have hjo := hok j (List.mem_of_getElem? hj)
  obtain ⟨x, hx1, hx, hx3⟩ := h.get hj
  obtain ⟨c, hc1, hc2⟩ := h.cut (i := i) (by omega)
  refine o_fin ?_
  unfold m_rows_of_response
  refine o_bindR (o_eq (check_ok h hok hl) ?_)
  refine o_bindR (o_eq (place_ok h hi) ?_)
  refine o_bindR (o_eq hx3 ?_)
  refine o_bindR (o_eq hx.unp ?_)
  refine o_bindR (o_eq rfl ?_)
  refine o_bindR (o_eq rfl ?_)
  refine o_lt (o_bind ?_)
  refine o_while (fun s => ∃ l, s[s.length - 1]? = some l ∧ Lo js i j l ∧ (s.length : Int) ≤ l ∧ 1 ≤ s.length) (fun s => (j.2.1 + 1 - (s[s.length - 1]?).getD 0).toNat) (fun s hs => ?_) 100000 _ ⟨j.1, rfl, .start hok hjo, hjo.1, Nat.le_refl _⟩ ?_
  · obtain ⟨l, hl1, lo, hl2, hl3⟩ := hs
    refine o_r (o_bindR (o_eq (idx_last hl1) ?_))
    refine ⟨fun z => ⟨l, hl1, ?_⟩, fun z => ?_⟩
    · have z' : ¬ l ≤ j.2.1 := of_decide_eq_false z
      exact ⟨fun q => absurd q z', fun q => absurd q (lo.nofe (by omega))⟩
    · have z' : l ≤ j.2.1 := of_decide_eq_true z
      show Out (bindR (cutD d none (some (i : Int))) _) _ _ _ _ _
      refine o_bindR (o_eq hc1 ?_)
      refine o_bindR (o_eq hc2 ?_)
      refine o_bindR (o_lcR (fun u => (jobOf u).1 * cl l (jobOf u).2.1) (fun u hu => ?_) ?_ ?_)
      · have hu' : u ∈ ds := List.mem_of_mem_take hu
        obtain ⟨k, hk⟩ := List.getElem?_of_mem hu'
        obtain ⟨ju, hju, hjd⟩ := h.at_ k u hk
        obtain ⟨o1, o2, o3, o4, o5, o6⟩ := hok ju (List.mem_of_getElem? hju)
        rw [hjd.a0, hjd.a1]
        refine o_r (o_bindR (o_eq rfl ?_))
        refine o_bindR (o_eq (idx_last hl1) ?_)
        refine o_bindR (o_eq rfl ?_)
        refine o_bindR (o_eq rfl ?_)
        refine o_bindR (o_eq (divR_nx (by omega) (by omega)) ?_)
        refine o_bindR (o_eq rfl ?_)
        refine o_bindR (o_eq (mulR_nx (.inl (by omega))) ?_)
        show _ = _
        rw [hjd.job]
        rfl
      · have q := List.length_take_le i ds
        omega
      · refine o_lt ?_
        have es : j.1 + ((ds.take i).map fun u => (jobOf u).1 * cl l (jobOf u).2.1).sum = j.1 + loadS (js.take i) l := by
          unfold loadS
          rw [← h.jobs, ← List.map_take, List.map_map]
          rfl
        rw [es]
        refine o_bindR (o_eq (idx_last hl1) ?_)
        refine o_ite (fun q => ?_) fun q => ?_
        · have q' : j.1 + loadS (js.take i) l = l := of_decide_eq_true q
          exact ⟨l, hl1, fun _ => lo.fe q' z', fun _ => z'⟩
        · have q' : ¬ j.1 + loadS (js.take i) l = l := of_decide_eq_false q
          have up := lo.up
          obtain ⟨o1, o2, o3, o4, o5, o6⟩ := hjo
          refine o_bindR (o_eq (appR_nx (show s.length < 1000000 by omega)) ?_)
          have e3 : (s ++ [j.1 + loadS (js.take i) l])[(s ++ [j.1 + loadS (js.take i) l]).length - 1]? = some (j.1 + loadS (js.take i) l) := by simp
          refine ⟨⟨_, e3, lo.next hok, by simp; omega, by simp⟩, ?_⟩
          show (j.2.1 + 1 - ((s ++ [j.1 + loadS (js.take i) l])[(s ++ [j.1 + loadS (js.take i) l]).length - 1]?).getD 0).toNat < (j.2.1 + 1 - (s[s.length - 1]?).getD 0).toNat
          rw [e3, hl1]
          show (j.2.1 + 1 - (j.1 + loadS (js.take i) l)).toNat < (j.2.1 + 1 - l).toNat
          omega
  · obtain ⟨o1, o2, o3, o4, o5, o6⟩ := hjo
    show (j.2.1 + 1 - j.1).toNat < 100000
    omega
end
end Lw

set_option Elab.async false
set_option linter.all false
set_option maxRecDepth 100000
set_option maxHeartbeats 1000000
namespace Lw
open PySem L2 Gv
section
variable {d : PyData} {ds : List PyData} {js : List Job} {i : Nat} {j : Job}
theorem response_ok (h : JsD d ds js) (hok : ∀ j, j ∈ js → okJ j) (hl : js.length ≤ 5) (hj : js[i]? = some j) : OutR (f_response (d, (i : Int))) (fun r => r.isNone = false ↔ Fe js i j) (fun _ => False) := by
  obtain ⟨x, hx1, hx, hx3⟩ := h.get hj
  refine o_fin ?_
  unfold m_response
  refine o_bindR ((rows_ok h hok hl hj).imp (fun found q => ?_) fun _ q => q)
  obtain ⟨l, h1, h2⟩ := q
  refine o_bindR (o_eq (idx_last h1) ?_)
  refine o_bind (o_bindR (o_eq hx3 ?_))
  refine o_bindR (o_eq hx.a1 ?_)
  refine o_bindR (o_eq rfl ?_)
  refine o_ite (fun z => ?_) fun z => ?_
  · have z' : l ≤ j.2.1 := of_decide_eq_true z
    exact ⟨fun _ => h2.mp z', fun _ => rfl⟩
  · have z' : ¬ l ≤ j.2.1 := of_decide_eq_false z
    exact ⟨fun q => (nomatch q), fun q => absurd (h2.mpr q) z'⟩
open Classical in
theorem never_ok (h : JsD d ds js) (hok : ∀ j, j ∈ js → okJ j) (hl : js.length ≤ 5) : ∃ b, f_never_misses d = .nx b ∧ (b = true ↔ Feas js) := by
  refine o_val ?_
  refine o_fin ?_
  unfold m_never_misses
  refine o_bindR (o_eq (check_ok h hok hl) ?_)
  refine o_bindR (o_eq h.lenD ?_)
  refine o_bindR (o_eq (rngR_nx (by omega)) ?_)
  refine o_bindR (o_lcR (fun b => decide (∀ j, js[b.toNat]? = some j → Fe js b.toNat j)) (fun b hb => ?_) ?_ ?_)
  · have hb' := mem_rangeL.mp hb
    obtain ⟨k, rfl⟩ : ∃ k : Nat, b = (k : Int) := ⟨b.toNat, by omega⟩
    have hk : k < js.length := by omega
    have hj : js[k]? = some js[k] := List.getElem?_eq_getElem hk
    refine o_r (o_bindR ((response_ok h hok hl hj).imp (fun r q => ?_) fun _ q => q.elim))
    show _ = _
    congr 2
    rw [Int.toNat_natCast]
    cases e : r.isNone with
    | true =>
      rw [e] at q
      exact (decide_eq_false fun z => nomatch q.mpr (z _ hj)).symm
    | false =>
      refine (decide_eq_true fun j' hj' => ?_).symm
      rw [hj] at hj'
      cases hj'
      exact q.mp e
  · rw [rangeL_len]; omega
  · show ((rangeL 0 (js.length : Int)).map _).all id = true ↔ Feas js
    rw [List.all_eq_true]
    constructor
    · intro q k j hj
      have hk : k < js.length := (List.getElem?_eq_some_iff.mp hj).1
      have := q _ (List.mem_map.mpr ⟨(k : Int), mem_rangeL.mpr ⟨by omega, by omega⟩, rfl⟩)
      have := of_decide_eq_true this
      rw [Int.toNat_natCast] at this
      exact this j hj
    · intro q x hx
      obtain ⟨b, _, rfl⟩ := List.mem_map.mp hx
      exact decide_eq_true fun j hj => q _ j hj
/-! ### the law's own -/
theorem inner_ok (hok : ∀ j, j ∈ js → okJ j) (hj : js[i]? = some j) {l : Int} (hl : 0 ≤ l) {ρ lam : Type} {T : ρ → Prop} {B C : lam → Prop} {E : Er → Prop} {N : Int → Prop} {c : Int} (hN : N (c + loadS (js.take i) l)) :
    Out (forO (fun (s12 : Int) (b13 : Int) =>
bindR (idx js b13) fun t14 =>
bindR (idx js b13) fun t15 =>
bindR (idx js b13) fun t16 =>
bindR (divR ((l + t15.2.1) - (1 : Int)) t16.2.1) fun t17 =>
bindR (mulR t14.1 t17) fun t18 =>
lt (s12 + t18) fun (total_19 : Int) =>
.nx total_19) (rangeL 0 (i : Int)) c : O ρ lam Int) N T B C E := by
  have hi : i < js.length := (List.getElem?_eq_some_iff.mp hj).1
  refine o_for (fun k s => s = c + loadS (js.take k) l) (by simp [loadS]) (fun k s b hb hs => ?_) fun s hs => ?_
  · obtain ⟨rfl, hk⟩ := rangeL_get0 hb
    have hk2 : k < js.length := by omega
    have e : js[k]? = some js[k] := List.getElem?_eq_getElem hk2
    obtain ⟨o1, o2, o3, o4, o5, o6⟩ := hok js[k] (List.getElem_mem hk2)
    refine o_bindR (o_eq (idx_nat e) ?_)
    refine o_bindR (o_eq (idx_nat e) ?_)
    refine o_bindR (o_eq (idx_nat e) ?_)
    refine o_bindR (o_eq (divR_nx (by omega) (by omega)) ?_)
    refine o_bindR (o_eq (mulR_nx (.inl (by omega))) ?_)
    show _ = _
    rw [hs, cl_eq (by omega)]
    unfold loadS
    rw [List.take_succ, e]
    simp only [Option.toList, List.map_append, List.map_cons, List.map_nil, List.sum_append, List.sum_cons, List.sum_nil]
    omega
  · rw [rangeL_len] at hs
    have : ((i : Int) - 0).toNat = i := by omega
    rw [this] at hs
    rw [hs]
    exact hN
theorem well_ok (hok : ∀ j, j ∈ js → okJ j) (hl : js.length ≤ 5) : ∃ b, f_law_well js = .nx b ∧ (b = true ↔ Feas js) := by
  refine o_val ?_
  refine o_fin ?_
  unfold m_law_well
  refine o_bindR (o_eq (rngR_nx (by omega)) ?_)
  refine o_bind ?_
  refine o_for (fun k _ => ∀ (i : Nat) (j : Job), i < k → js[i]? = some j → Fe js i j) (fun i j hi => by omega) (fun k s b hb hs => ?_) fun s hs => ?_
  · obtain ⟨rfl, hk⟩ := rangeL_get0 hb
    have e : js[k]? = some js[k] := List.getElem?_eq_getElem hk
    have hjo := hok js[k] (List.getElem_mem hk)
    obtain ⟨o1, o2, o3, o4, o5, o6⟩ := id hjo
    generalize js[k] = j at e hjo o1 o2 o3 o4 o5 o6
    refine o_bindR (o_eq (idx_nat e) ?_)
    refine o_bindR (o_eq (rngR_nx (by omega)) ?_)
    refine o_bind ?_
    refine o_for (fun n (s : Int × Bool) => (s.2 = true → Fe js k j) ∧ (s.2 = false → Lo js k j s.1 ∧ (s.1 ≤ j.2.1 → (n : Int) + 1 ≤ s.1))) ⟨fun z => (nomatch z), fun _ => ⟨.start hok hjo, fun _ => by simpa using o1⟩⟩ (fun n s b hb hs => ?_) fun s hs => ?_
    · obtain ⟨h1, h2⟩ := hs
      refine o_bind (o_ite (fun z => ?_) fun z => ?_)
      · have z' : s.2 = false := by simpa using z
        obtain ⟨lo, hn⟩ := h2 z'
        refine o_bindR (o_eq (idx_nat e) ?_)
        refine o_ite (fun q => ?_) fun q => ?_
        · have q' : s.1 ≤ j.2.1 := of_decide_eq_true q
          have hn' := hn q'
          refine o_bindR (o_eq (idx_nat e) ?_)
          refine o_bindR (o_eq (rngR_nx (by omega)) ?_)
          refine o_bind (inner_ok hok e (by have := lo.pos; omega) ?_)
          refine o_lt ?_
          show (decide (j.1 + loadS (js.take k) s.1 = s.1) = true → Fe js k j) ∧ (decide (j.1 + loadS (js.take k) s.1 = s.1) = false → Lo js k j (j.1 + loadS (js.take k) s.1) ∧ (j.1 + loadS (js.take k) s.1 ≤ j.2.1 → ((n + 1 : Nat) : Int) + 1 ≤ j.1 + loadS (js.take k) s.1))
          refine ⟨fun y => lo.fe (of_decide_eq_true y) q', fun y => ⟨lo.next hok, fun _ => ?_⟩⟩
          have y' := of_decide_eq_false y
          have := lo.up
          show ((n + 1 : Nat) : Int) + 1 ≤ j.1 + loadS (js.take k) s.1
          omega
        · have q' : ¬ s.1 ≤ j.2.1 := of_decide_eq_false q
          exact ⟨h1, fun y => ⟨lo, fun y2 => absurd y2 q'⟩⟩
      · have z' : s.2 = true := by simpa using z
        exact ⟨h1, fun y => by rw [z'] at y; cases y⟩
    · obtain ⟨h1, h2⟩ := hs
      refine o_ite (fun z => ?_) fun z => ?_
      · have z' : s.2 = false := by simpa using z
        obtain ⟨lo, hn⟩ := h2 z'
        show false = true ↔ _
        refine ⟨fun y => (nomatch y), fun y => absurd (y k j e) (lo.nofe ?_)⟩
        by_cases hc : s.1 ≤ j.2.1
        · have := hn hc
          rw [rangeL_len] at this
          omega
        · omega
      · have z' : s.2 = true := by simpa using z
        intro i j' hi hj'
        by_cases hik : i = k
        · subst hik
          rw [e] at hj'
          cases hj'
          exact h1 z'
        · rename_i hs2
          exact hs i j' (by omega) hj'
  · show true = true ↔ Feas js
    refine ⟨fun _ i j hj => hs i j ?_ hj, fun _ => rfl⟩
    rw [rangeL_len]
    have := (List.getElem?_eq_some_iff.mp hj).1
    omega
end
end Lw

set_option Elab.async false
set_option linter.all false
set_option maxRecDepth 100000
set_option maxHeartbeats 1000000
namespace Lw
open PySem L2 Gv
/-! ### the load -/
def rawS (s : Nat × Nat) (j : Job) : Nat × Nat := (s.1 * j.2.1.toNat + j.1.toNat * s.2, s.2 * j.2.1.toNat)
def raw (js : List Job) : Nat × Nat := js.foldl rawS (0, 1)
theorem okJ.nat {j : Job} (h : okJ j) : ∃ c t : Nat, j.1 = (c : Int) ∧ j.2.1 = (t : Int) ∧ 1 ≤ c ∧ c ≤ 12 ∧ 1 ≤ t ∧ t ≤ 24 := by
  obtain ⟨o1, o2, o3, o4, o5, o6⟩ := h
  exact ⟨j.1.toNat, j.2.1.toNat, by omega, by omega, by omega, by omega, by omega, by omega⟩
theorem raw_snoc (js : List Job) (j : Job) : raw (js ++ [j]) = rawS (raw js) j := by simp [raw, List.foldl_append]
theorem raw_bound' : ∀ (l : List Job), (∀ j, j ∈ l → okJ j) → 1 ≤ (raw l.reverse).2 ∧ (raw l.reverse).2 ≤ 24 ^ l.length ∧ (raw l.reverse).1 ≤ 12 * l.length * 24 ^ l.length
  | [], _ => by simp [raw]
  | j :: js, h => by
    obtain ⟨h1, h2, h3⟩ := raw_bound' js fun u hu => h u (by simp [hu])
    obtain ⟨c, t, e1, e2, b1, b2, b3, b4⟩ := (h j (by simp)).nat
    rw [List.reverse_cons, raw_snoc]
    unfold rawS
    rw [e1, e2]
    simp only [Int.toNat_natCast, List.length_cons, Nat.pow_succ]
    refine ⟨Nat.mul_pos h1 b3, Nat.mul_le_mul h2 b4, ?_⟩
    have a1 : (raw js.reverse).1 * t ≤ 12 * js.length * 24 ^ js.length * 24 := Nat.mul_le_mul h3 b4
    have a2 : c * (raw js.reverse).2 ≤ 12 * 24 ^ js.length := Nat.mul_le_mul b2 h2
    have a3 : 12 * (js.length + 1) * (24 ^ js.length * 24) = 12 * js.length * 24 ^ js.length * 24 + 12 * 24 ^ js.length * 24 := by
      rw [Nat.mul_add, Nat.add_mul, Nat.mul_assoc (12 * js.length), Nat.mul_one, Nat.mul_assoc 12 (24 ^ js.length) 24]
    rw [a3]
    omega
theorem raw_bound (js : List Job) (h : ∀ j, j ∈ js → okJ j) : 1 ≤ (raw js).2 ∧ (raw js).2 ≤ 24 ^ js.length ∧ (raw js).1 ≤ 12 * js.length * 24 ^ js.length := by
  have q := raw_bound' js.reverse fun j hj => h j (by simpa using hj)
  rw [List.reverse_reverse, List.length_reverse] at q
  exact q
/-- Euclid, 100 turns -/
theorem lowest_ok {n d : Nat} (hd : 1 ≤ d) (hd2 : d < 2 ^ 29) (hn : n < 2 ^ 60) : f_law_lowest ((n : Int), (d : Int)) = .nx (((n / Nat.gcd n d : Nat) : Int), ((d / Nat.gcd n d : Nat) : Int)) := by
  obtain ⟨r, e, q⟩ := o_val (m := f_law_lowest ((n : Int), (d : Int))) (N := fun r => r = (((n / Nat.gcd n d : Nat) : Int), ((d / Nat.gcd n d : Nat) : Int))) (by
    refine o_fin ?_
    unfold m_law_lowest
    refine o_bindR (o_eq (rngR_nx (by omega)) (o_bind ?_))
    refine o_for (fun k (s : Int × Int) => ∃ a b : Nat, s = ((a : Int), (b : Int)) ∧ Nat.gcd a b = Nat.gcd n d ∧ (k = 0 ∧ a = n ∧ b = d ∨ 1 ≤ k ∧ b < a ∧ a * b * 2 ^ k ≤ 2 * (n * d))) ⟨n, d, rfl, rfl, .inl ⟨rfl, rfl, rfl⟩⟩ (fun k s x hx hs => ?_) fun s hs => ?_
    · obtain ⟨a, b, rfl, hg, hk⟩ := hs
      refine o_ite (fun z => ?_) fun z => ?_
      · have z' : (0 : Int) < (b : Int) := of_decide_eq_true z
        have hb : 0 < b := by omega
        refine o_bindR (o_eq (modR_nx z') ?_)
        refine ⟨b, a % b, by simp, by rw [Nat.gcd_comm b, ← Nat.gcd_rec, Nat.gcd_comm]; exact hg, .inr ⟨by omega, Nat.mod_lt _ hb, ?_⟩⟩
        rcases hk with ⟨rfl, rfl, rfl⟩ | ⟨h1, h2, h3⟩
        · have := Nat.mod_le a b
          have : b * (a % b) ≤ b * a := Nat.mul_le_mul_left b this
          rw [Nat.mul_comm a b]
          omega
        · have e := Nat.div_add_mod a b
          have q1 : 1 ≤ a / b := (Nat.one_le_div_iff hb).mpr (by omega)
          have q2 : b * 1 ≤ b * (a / b) := Nat.mul_le_mul_left b q1
          have q3 : 2 * (a % b) ≤ a := by have := Nat.mod_lt a hb; omega
          have q4 : b * (a % b) * 2 ≤ a * b := by
            rw [Nat.mul_assoc, Nat.mul_comm a b]
            exact Nat.mul_le_mul_left b (by omega)
          rw [Nat.pow_succ]
          calc b * (a % b) * (2 ^ k * 2) = b * (a % b) * 2 * 2 ^ k := by ac_rfl
            _ ≤ a * b * 2 ^ k := Nat.mul_le_mul_right _ q4
            _ ≤ _ := h3
      · have z' : ¬ (0 : Int) < (b : Int) := of_decide_eq_false z
        have hb : b = 0 := by omega
        subst hb
        refine ⟨a, 0, rfl, hg, .inr ⟨by omega, ?_, by simp⟩⟩
        rcases hk with ⟨_, _, h⟩ | ⟨_, h, _⟩
        · omega
        · exact h
    · obtain ⟨a, b, rfl, hg, hk⟩ := hs
      rw [rangeL_len] at hk
      rcases hk with ⟨h, _⟩ | ⟨_, h2, h3⟩
      · omega
      · have hb : b = 0 := by
          rcases Nat.eq_zero_or_pos b with h | h
          · exact h
          · exfalso
            have p1 : 1 ≤ a * b := Nat.mul_pos (by omega) h
            have p2 : n * d < 2 ^ 60 * 2 ^ 29 := Nat.mul_lt_mul'' hn hd2
            have p3 : 1 * 2 ^ ((100 : Int) - 0).toNat ≤ a * b * 2 ^ ((100 : Int) - 0).toNat := Nat.mul_le_mul_right _ p1
            have p4 : (1 : Nat) * 2 ^ ((100 : Int) - 0).toNat = 1267650600228229401496703205376 := by decide
            omega
        subst hb
        rw [Nat.gcd_zero_right] at hg
        subst hg
        have g1 : 1 ≤ Nat.gcd n d := Nat.gcd_pos_of_pos_right n hd
        have g2 : Nat.gcd n d ≤ d := Nat.le_of_dvd hd (Nat.gcd_dvd_right n d)
        have g3 : ((Nat.gcd n d : Nat) : Int) < 1073741824 := by omega
        refine o_bindR (o_eq (divR_nx (show (0 : Int) < ((Nat.gcd n d : Nat) : Int) by omega) g3) ?_)
        refine o_bindR (o_eq (divR_nx (show (0 : Int) < ((Nat.gcd n d : Nat) : Int) by omega) g3) ?_)
        show _ = _
        simp)
  rw [e, q]
def due (js : List Job) : Int × Int := ((((raw js).1 / Nat.gcd (raw js).1 (raw js).2 : Nat) : Int), (((raw js).2 / Nat.gcd (raw js).1 (raw js).2 : Nat) : Int))
theorem pow5 {k : Nat} (h : k ≤ 5) : 24 ^ k ≤ 7962624 := Nat.le_trans (Nat.pow_le_pow_right (by omega) h) (by decide)
theorem law_load_ok {js : List Job} (hok : ∀ j, j ∈ js → okJ j) (hl : js.length ≤ 5) : f_law_load js = .nx (due js) := by
  obtain ⟨r, e, q⟩ := o_val (m := f_law_load js) (N := fun r => r = due js) (by
    refine o_fin ?_
    unfold m_law_load
    refine o_lt (o_lt (o_bind ?_))
    refine o_for (fun k (s : Int × Int) => s = (((raw (js.take k)).1 : Int), ((raw (js.take k)).2 : Int))) (by simp [raw]) (fun k s x hx hs => ?_) fun s hs => ?_
    · have ho := hok x (List.mem_of_getElem? hx)
      obtain ⟨x1, x2, x3⟩ := x
      have q := ho.nat
      clear ho
      obtain ⟨c, t, e1, e2, b1, b2, b3, b4⟩ := q
      have e1' : x1 = (c : Int) := e1
      have e2' : x2 = (t : Int) := e2
      clear e1 e2
      subst e1' e2' hs
      have m1 : mulR ((raw (js.take k)).1 : Int) (t : Int) = .nx (((raw (js.take k)).1 : Int) * (t : Int)) := mulR_nx (.inr (by omega))
      have m2 : mulR (c : Int) ((raw (js.take k)).2 : Int) = .nx ((c : Int) * ((raw (js.take k)).2 : Int)) := mulR_nx (.inl (by omega))
      have m3 : mulR ((raw (js.take k)).2 : Int) (t : Int) = .nx (((raw (js.take k)).2 : Int) * (t : Int)) := mulR_nx (.inr (by omega))
      dsimp only
      rw [m1, m2, m3]
      simp only [bindR_nx, lt_eq]
      have e3 : raw (js.take (k + 1)) = rawS (raw (js.take k)) ((c : Int), (t : Int), x3) := by
        rw [List.take_succ, hx]
        exact raw_snoc _ _
      show _ = _
      rw [e3]
      unfold rawS
      simp
    · rw [List.take_length] at hs
      subst hs
      obtain ⟨h1, h2, h3⟩ := raw_bound js hok
      have h4 := pow5 hl
      have h5 : 12 * js.length * 24 ^ js.length ≤ 12 * 5 * 7962624 := Nat.mul_le_mul (by omega) h4
      exact o_bindR (o_eq (lowest_ok h1 (by omega) (by omega)) rfl))
  rw [e, q]
end Lw

set_option Elab.async false
set_option linter.all false
set_option maxRecDepth 100000
set_option maxHeartbeats 1000000
namespace Lw
open PySem L2 Gv
theorem lowest_uniq {a b N D : Nat} (hb : 0 < b) (hD : 0 < D) (hc : Nat.gcd a b = 1) (he : a * D = N * b) : a = N / Nat.gcd N D ∧ b = D / Nat.gcd N D := by
  have h1 : b ∣ a * D := ⟨N, by rw [he, Nat.mul_comm]⟩
  have h2 : b ∣ D := Nat.Coprime.dvd_of_dvd_mul_left (by show Nat.gcd b a = 1; rw [Nat.gcd_comm]; exact hc) h1
  obtain ⟨k, rfl⟩ := h2
  have hk : 0 < k := Nat.pos_of_mul_pos_left hD
  have h3 : N = a * k := by
    have : b * N = b * (a * k) := by rw [Nat.mul_comm b N, ← he]; ac_rfl
    exact Nat.eq_of_mul_eq_mul_left hb this
  subst h3
  rw [Nat.gcd_mul_right, hc, Nat.one_mul]
  exact ⟨(Nat.mul_div_cancel _ hk).symm, (Nat.mul_div_cancel _ hk).symm⟩
theorem load_step {a b c t N D : Nat} (hb : 1 ≤ b) (ht : 1 ≤ t) (he : a * D = N * b) : let G := Nat.gcd (a * t + c * b) (b * t)
    0 < G ∧ Nat.gcd ((a * t + c * b) / G) (b * t / G) = 1 ∧ 1 ≤ b * t / G ∧ b * t / G ≤ b * t ∧ ((a * t + c * b) / G) * (D * t) = (N * t + c * D) * (b * t / G) := by
  intro G
  have hbt : 0 < b * t := Nat.mul_pos hb ht
  have g0 : 0 < G := Nat.gcd_pos_of_pos_right _ hbt
  have d1 : G ∣ a * t + c * b := Nat.gcd_dvd_left _ _
  have d2 : G ∣ b * t := Nat.gcd_dvd_right _ _
  obtain ⟨u, hu⟩ := d1
  obtain ⟨v, hv⟩ := d2
  have e1 : (a * t + c * b) / G = u := by rw [hu]; exact Nat.mul_div_cancel_left _ g0
  have e2 : b * t / G = v := by rw [hv]; exact Nat.mul_div_cancel_left _ g0
  rw [e1, e2]
  refine ⟨g0, ?_, ?_, ?_, ?_⟩
  · have q : G * Nat.gcd u v = G * 1 := by
      rw [← Nat.gcd_mul_left, ← hu, ← hv, Nat.mul_one]
    exact Nat.eq_of_mul_eq_mul_left g0 q
  · rcases Nat.eq_zero_or_pos v with h | h
    · rw [h, Nat.mul_zero] at hv; omega
    · exact h
  · rw [hv]; exact Nat.le_mul_of_pos_left _ g0
  · refine Nat.eq_of_mul_eq_mul_left g0 ?_
    have l1 : G * (u * (D * t)) = (a * t + c * b) * (D * t) := by rw [hu]; ac_rfl
    have l2 : G * ((N * t + c * D) * v) = (N * t + c * D) * (b * t) := by rw [hv]; ac_rfl
    rw [l1, l2, Nat.add_mul, Nat.add_mul]
    have l3 : a * t * (D * t) = (a * D) * (t * t) := by ac_rfl
    have l4 : N * t * (b * t) = (N * b) * (t * t) := by ac_rfl
    have l5 : c * b * (D * t) = c * D * (b * t) := by ac_rfl
    rw [l3, l4, he, l5]
theorem step_facts {a b c t N D k : Nat} (hb2 : b ≤ 24 ^ k) (hk : k + 1 ≤ 5) (hb1 : 1 ≤ b) (b2 : c ≤ 12) (b3 : 1 ≤ t) (b4 : t ≤ 24) (he : a * D = N * b) : ∃ G : Nat,
    mulR (a : Int) (t : Int) = .nx ((a : Int) * (t : Int)) ∧ mulR (c : Int) (b : Int) = .nx ((c : Int) * (b : Int)) ∧ mulR (b : Int) (t : Int) = .nx ((b : Int) * (t : Int)) ∧
    gcdI ((a : Int) * (t : Int) + (c : Int) * (b : Int)) ((b : Int) * (t : Int)) = (G : Int) ∧ divR ((a : Int) * (t : Int) + (c : Int) * (b : Int)) (G : Int) = .nx (((a * t + c * b) / G : Nat) : Int) ∧ divR ((b : Int) * (t : Int)) (G : Int) = .nx ((b * t / G : Nat) : Int) ∧
    Nat.gcd ((a * t + c * b) / G) (b * t / G) = 1 ∧ 1 ≤ b * t / G ∧ b * t / G ≤ b * t ∧ ((a * t + c * b) / G) * (D * t) = (N * t + c * D) * (b * t / G) := by
  have bt : b * t ≤ 7962624 := by
    have p1 : b * t ≤ 24 ^ k * 24 := Nat.mul_le_mul hb2 b4
    have p3 := pow5 hk
    rw [Nat.pow_succ] at p3
    exact Nat.le_trans p1 p3
  obtain ⟨g0, g1, g2, g3, g4⟩ := load_step (c := c) hb1 b3 he
  have gl : Nat.gcd (a * t + c * b) (b * t) ≤ b * t := Nat.le_of_dvd (Nat.mul_pos hb1 b3) (Nat.gcd_dvd_right _ _)
  refine ⟨Nat.gcd (a * t + c * b) (b * t), mulR_nx (.inr (by omega)), mulR_nx (.inl (by omega)), mulR_nx (.inr (by omega)), ?_, ?_, ?_, g1, g2, g3, g4⟩
  · unfold gcdI
    rw [← Int.natCast_mul, ← Int.natCast_mul, ← Int.natCast_mul, ← Int.natCast_add, Int.natAbs_natCast, Int.natAbs_natCast]
  · rw [divR_nx (Int.natCast_pos.mpr g0) (by omega)]
    simp
  · rw [divR_nx (Int.natCast_pos.mpr g0) (by omega)]
    simp
section
variable {d : PyData} {ds : List PyData} {js : List Job}
theorem load_ok (h : JsD d ds js) (hok : ∀ j, j ∈ js → okJ j) (hl : js.length ≤ 5) : f_load d = .nx (due js) := by
  obtain ⟨r, e, q⟩ := o_val (m := f_load d) (N := fun r => r = due js) (by
    refine o_fin ?_
    unfold m_load
    refine o_bindR (o_eq (check_ok h hok hl) ?_)
    refine o_bindR (o_eq h.items (o_bind ?_))
    refine o_for (fun k (s : Int × Int) => ∃ a b : Nat, s.1 = (a : Int) ∧ s.2 = (b : Int) ∧ 1 ≤ b ∧ b ≤ (raw (js.take k)).2 ∧ Nat.gcd a b = 1 ∧ a * (raw (js.take k)).2 = (raw (js.take k)).1 * b) ⟨0, 1, rfl, rfl, by simp [raw], by simp [raw], by simp, by simp [raw]⟩ (fun k s x hx hs => ?_) fun s hs => ?_
    · obtain ⟨j, hj, hjd⟩ := h.at_ k x hx
      have hk : k < js.length := (List.getElem?_eq_some_iff.mp hj).1
      have ho := hok j (List.mem_of_getElem? hj)
      obtain ⟨a, b, hs1, hs2, hb1, hb2, hg, he⟩ := hs
      obtain ⟨j1, j2, j3⟩ := j
      have q := ho.nat
      clear ho
      obtain ⟨c, t, e1, e2, b1, b2, b3, b4⟩ := q
      have e1' : j1 = (c : Int) := e1
      have e2' : j2 = (t : Int) := e2
      clear e1 e2
      subst e1' e2'
      have e3 : raw (js.take (k + 1)) = rawS (raw (js.take k)) ((c : Int), (t : Int), j3) := by
        rw [List.take_succ, hj]
        exact raw_snoc _ _
      have bk : (raw (js.take k)).2 ≤ 24 ^ k := by
        have bd := (raw_bound (js.take k) (take_ok hok)).2.1
        rw [show (js.take k).length = k by rw [List.length_take]; omega] at bd
        exact bd
      obtain ⟨G, m1, m2, m3, gc, v1, v2, g1, g2, g3, g4⟩ := step_facts (c := c) (Nat.le_trans hb2 bk) (by omega) hb1 b2 b3 b4 he
      rw [← hs1] at m1
      rw [← hs2] at m2 m3
      refine o_bindR (o_eq hjd.unp ?_)
      refine o_bindR (o_eq (a := (c : Int)) rfl ?_)
      refine o_bindR (o_eq (a := (t : Int)) rfl ?_)
      rw [m1, m2, m3]
      refine o_bindR (o_eq rfl ?_)
      refine o_bindR (o_eq rfl ?_)
      refine o_bindR (o_eq rfl ?_)
      refine o_lt ?_
      rw [hs1, hs2, gc, v1, v2]
      refine o_bindR (o_eq rfl ?_)
      refine o_bindR (o_eq rfl ?_)
      refine ⟨_, _, rfl, rfl, g2, ?_, g1, ?_⟩
      · rw [e3]
        show _ ≤ (raw (js.take k)).2 * ((t : Int)).toNat
        rw [Int.toNat_natCast]
        exact Nat.le_trans g3 (Nat.mul_le_mul_right t hb2)
      · rw [e3]
        show _ * ((raw (js.take k)).2 * ((t : Int)).toNat) = ((raw (js.take k)).1 * ((t : Int)).toNat + ((c : Int)).toNat * (raw (js.take k)).2) * _
        rw [Int.toNat_natCast, Int.toNat_natCast]
        exact g4
    · obtain ⟨a, b, hs1, hs2, hb1, hb2, hg, he⟩ := hs
      rw [h.len, List.take_length] at he hb2
      have q := lowest_uniq (by omega) (by omega) hg he
      refine o_rt ?_
      unfold due
      rw [← q.1, ← q.2, ← hs1, ← hs2])
  rw [e, q]
end
end Lw

set_option Elab.async false
set_option linter.all false
set_option maxRecDepth 100000
set_option maxHeartbeats 1000000
namespace Lw
open PySem L2 Gv
/-! ### numbers and draws -/
def Nn (l : List Int) : Prop := ∀ x, x ∈ l → 0 ≤ x
theorem Nn.app {l : List Int} {x : Int} (h : Nn l) (hx : 0 ≤ x) : Nn (l ++ [x]) := fun y hy => by
  rcases List.mem_append.mp hy with hy | hy
  · exact h y hy
  · have : y = x := by simpa using hy
    omega
theorem numbers_ok {ns : List Int} (hl : ns.length ≤ 63) : ∃ nums, f_law_numbers ns = .nx nums ∧ Nn nums := by
  refine o_val ?_
  refine o_fin ?_
  unfold m_law_numbers
  refine o_lt ?_
  refine o_bindR (o_eq (rngR_nx (by unfold minI; split <;> omega)) ?_)
  refine o_bind ?_
  refine o_for (fun k (s : List Int) => Nn s ∧ s.length ≤ 45 * k) ⟨fun x hx => (nomatch hx), by simp⟩ (fun k s b hb hs => ?_) fun s hs => ?_
  · have hk : k < 63 ∧ b = (k : Int) ∧ k < ns.length := by
      have e := rangeL_get hb
      have l := (List.getElem?_eq_some_iff.mp hb).1
      rw [rangeL_len] at l
      unfold minI at l
      split at l <;> omega
    obtain ⟨h63, rfl, hkl⟩ := hk
    obtain ⟨hs1, hs2⟩ := hs
    refine o_bindR (o_eq (idx_nat (List.getElem?_eq_getElem hkl)) ?_)
    refine o_lt ?_
    refine o_bind (N' := _) ?_
    have main : ∀ cell turned : Int, 0 ≤ cell → 0 ≤ turned → Out
        (if (decide (((10 : Int) ^ ((18 : Int)).toNat) ≤ cell)) then (bindR (rngR 0 (45 : Int)) fun l10 =>
(forO (fun (s11 : ((List Int) × Int)) (b12 : Int) =>
if (decide ((0 : Int) < s11.2)) then (bindR (appR s11.1 (s11.2 % (60 : Int))) fun ys13 =>
lt (s11.2 / (60 : Int)) fun (cell_14 : Int) =>
.nx (ys13, cell_14)) else (.nx (s11.1, s11.2))) l10 (s, cell)).bind fun (s11 : ((List Int) × Int)) =>
.nx s11.1) else (lt (((((cell * (16807 : Int)) + ((k : Int) * (7919 : Int))) + (turned * (104729 : Int))) + (11 : Int)) % (2147483629 : Int)) fun (seed_15 : Int) =>
bindR (rngR 0 (7 : Int)) fun l16 =>
(forO (fun (s17 : ((List Int) × Int)) (b18 : Int) =>
bindR (mulR (s17.2 / (1000 : Int)) b18) fun t19 =>
lt ((((s17.2 * (39373 : Int)) + t19) + (7919 : Int)) % (2147483629 : Int)) fun (seed_20 : Int) =>
bindR (appR s17.1 ((seed_20 / (7 : Int)) % (55440 : Int))) fun ys21 =>
.nx (ys21, seed_20)) l16 (s, seed_15)).bind fun (s17 : ((List Int) × Int)) =>
.nx s17.1) : O (List Int) (List Int) (List Int)) (fun s' => Nn s' ∧ s'.length ≤ 45 * (k + 1)) (fun r => Nn r) (fun _ => False) (fun _ => False) (fun _ => False) := by
      intro cell turned hc ht
      refine o_ite (fun _ => ?_) fun _ => ?_
      · refine o_bindR (o_eq (rngR_nx (by omega)) ?_)
        refine o_bind ?_
        refine o_for (fun n (s' : List Int × Int) => Nn s'.1 ∧ s'.1.length ≤ 45 * k + n ∧ 0 ≤ s'.2) ⟨hs1, by simpa using hs2, hc⟩ (fun n s' b hb h => ?_) fun s' h => ?_
        · obtain ⟨h1, h2, h3⟩ := h
          have hn : n < 45 := by
            have l := (List.getElem?_eq_some_iff.mp hb).1
            rw [rangeL_len] at l
            omega
          refine o_ite (fun _ => ?_) fun _ => ?_
          · rw [appR_nx (by omega)]
            refine o_bindR (o_eq rfl ?_)
            exact ⟨h1.app (Int.emod_nonneg _ (by omega)), by simp; omega, Int.ediv_nonneg h3 (by omega)⟩
          · exact ⟨h1, (show s'.1.length ≤ 45 * k + (n + 1) by omega), h3⟩
        · rw [rangeL_len] at h
          exact ⟨h.1, by have := h.2.1; omega⟩
      · refine o_lt ?_
        refine o_bindR (o_eq (rngR_nx (by omega)) ?_)
        refine o_bind ?_
        refine o_for (fun n (s' : List Int × Int) => Nn s'.1 ∧ s'.1.length ≤ 45 * k + n ∧ 0 ≤ s'.2 ∧ s'.2 < 2147483629) ⟨hs1, by simpa using hs2, Int.emod_nonneg _ (by omega), Int.emod_lt_of_pos _ (by omega)⟩ (fun n s' b hb h => ?_) fun s' h => ?_
        · obtain ⟨h1, h2, h3, h4⟩ := h
          have hb2 := mem_rangeL.mp (List.mem_of_getElem? hb)
          have hn : n < 7 := by
            have l := (List.getElem?_eq_some_iff.mp hb).1
            rw [rangeL_len] at l
            omega
          rw [mulR_nx (.inr (by omega))]
          refine o_bindR (o_eq rfl ?_)
          refine o_lt ?_
          rw [appR_nx (by omega)]
          refine o_bindR (o_eq rfl ?_)
          exact ⟨h1.app (Int.emod_nonneg _ (by omega)), by simp; omega, Int.emod_nonneg _ (by omega), Int.emod_lt_of_pos _ (by omega)⟩
        · rw [rangeL_len] at h
          exact ⟨h.1, by have := h.2.1; omega⟩
    refine o_ite (fun z => ?_) fun z => ?_
    · have z' : ns[k] < 0 := of_decide_eq_true z
      refine o_lt (o_lt (o_nx ?_))
      exact (main (0 - ns[k]) 1 (by omega) (by omega)).imp (fun _ q => q) (fun _ q => q) (fun _ q => q.elim) (fun _ q => q.elim) (fun _ q => q)
    · have z' : ¬ ns[k] < 0 := of_decide_eq_false z
      exact (main ns[k] 0 (by omega) (by omega)).imp (fun _ q => q) (fun _ q => q) (fun _ q => q.elim) (fun _ q => q.elim) (fun _ q => q)
  · refine o_lt (o_rt ?_)
    intro x hx
    exact hs.1 x (List.mem_reverse.mp hx)
theorem draw_ok {nums : List Int} {m : Int} (h : Nn nums) (hm : 0 < m) : OutR (f_law_draw (nums, m)) (fun r => 0 ≤ r.1 ∧ r.1 < m ∧ Nn r.2) (fun _ => False) := by
  refine o_fin ?_
  unfold m_law_draw
  refine o_ite (fun _ => ⟨Int.le_refl _, hm, h⟩) fun z => ?_
  have z' : ¬ (nums.length : Int) = 0 := of_decide_eq_false z
  have hl : nums.length - 1 < nums.length := by omega
  have e : nums[nums.length - 1]? = some nums[nums.length - 1] := List.getElem?_eq_getElem hl
  have ep : popR nums = .nx (nums[nums.length - 1], nums.dropLast) := by unfold popR; rw [e]
  refine o_bindR (o_eq ep ?_)
  refine o_bindR (o_eq (modR_nx hm) ?_)
  exact ⟨Int.emod_nonneg _ (by omega), Int.emod_lt_of_pos _ hm, fun x hx => h x ((List.dropLast_sublist _).subset hx)⟩
end Lw

set_option Elab.async false
set_option linter.all false
set_option maxRecDepth 100000
set_option maxHeartbeats 1000000
namespace Lw
open PySem L2 Gv
/-! ### drawn jobs -/
def AllJ (js : List Job) : Prop := ∀ j, j ∈ js → okJ j
theorem AllJ.app {js : List Job} {j : Job} (h : AllJ js) (hj : okJ j) : AllJ (js ++ [j]) := fun u hu => by
  rcases List.mem_append.mp hu with hu | hu
  · exact h u hu
  · have : u = j := by simpa using hu
    rw [this]; exact hj
theorem any_ok {nums : List Int} (h : Nn nums) : OutR (f_law_any_jobs nums) (fun r => AllJ r.1 ∧ r.1.length ≤ 4 ∧ Nn r.2) (fun _ => False) := by
  refine o_fin ?_
  unfold m_law_any_jobs
  refine o_lt ?_
  refine o_bindR ((draw_ok h (by omega)).imp (fun r2 q => ?_) fun _ q => q)
  obtain ⟨q1, q2, q3⟩ := q
  refine o_bindR (o_eq (rngR_nx (by omega)) ?_)
  refine o_bind ?_
  refine o_for (fun k (s : List Int × List Job) => Nn s.1 ∧ AllJ s.2 ∧ s.2.length = k) ⟨q3, fun j hj => (nomatch hj), rfl⟩ (fun k s b hb hs => ?_) fun s hs => ?_
  · obtain ⟨h1, h2, h3⟩ := hs
    have hk : k < 4 := by
      have l := (List.getElem?_eq_some_iff.mp hb).1
      rw [rangeL_len] at l
      omega
    refine o_bindR ((draw_ok h1 (by omega)).imp (fun r6 q => ?_) fun _ q => q)
    obtain ⟨a1, a2, a3⟩ := q
    refine o_bindR ((draw_ok a3 (by omega)).imp (fun r7 q => ?_) fun _ q => q)
    obtain ⟨b1, b2, b3⟩ := q
    have hi : ∃ m : Int, idx ([(24 : Int), (6 : Int)]) r7.1 = .nx m ∧ 0 < m ∧ m ≤ 24 := by
      rcases (show r7.1 = 0 ∨ r7.1 = 1 by omega) with e | e <;> rw [e]
      · exact ⟨24, rfl, by omega, by omega⟩
      · exact ⟨6, rfl, by omega, by omega⟩
    obtain ⟨m, hm, m1, m2⟩ := hi
    refine o_bindR (o_eq hm ?_)
    refine o_bindR (o_eq (modR_nx m1) ?_)
    refine o_lt ?_
    have p1 := Int.emod_nonneg r6.1 (show m ≠ 0 by omega)
    have p2 := Int.emod_lt_of_pos r6.1 m1
    generalize hp : r6.1 % m = p at p1 p2
    refine o_bindR ((draw_ok b3 (by omega)).imp (fun r11 q => ?_) fun _ q => q)
    obtain ⟨c1, c2, c3⟩ := q
    refine o_bindR ((draw_ok c3 (by omega)).imp (fun r12 q => ?_) fun _ q => q)
    obtain ⟨d1, d2, d3⟩ := q
    rw [appR_nx (by omega)]
    refine o_bindR (o_eq rfl ?_)
    refine ⟨d3, h2.app ⟨?_, ?_, ?_, ?_, d1, d2⟩, by simp [h3]⟩
    · show 1 ≤ 1 + r11.1; omega
    · show 1 + r11.1 ≤ 12; omega
    · show 1 ≤ 1 + p; omega
    · show 1 + p ≤ 24; omega
  · obtain ⟨h1, h2, h3⟩ := hs
    rw [rangeL_len] at h3
    exact ⟨h2, by show s.2.length ≤ 4; omega, h1⟩
theorem ix_lastI {α : Type} {xs : List α} (h : 1 ≤ xs.length) : ixN xs.length ((xs.length : Int) - 1) = some (xs.length - 1) := by
  have e : ((xs.length : Int) - 1) = ((xs.length - 1 : Nat) : Int) := by omega
  rw [e]
  exact ixN_nat (by omega)
theorem idx_lastI {α : Type} {xs : List α} {l : α} (h : xs[xs.length - 1]? = some l) : idx xs ((xs.length : Int) - 1) = .nx l := by
  have hl : xs.length - 1 < xs.length := (List.getElem?_eq_some_iff.mp h).1
  have e : ((xs.length : Int) - 1) = ((xs.length - 1 : Nat) : Int) := by omega
  rw [e]
  exact idx_nat h
theorem setR_lastI {α : Type} {xs : List α} {x : α} (h : 1 ≤ xs.length) : setR xs ((xs.length : Int) - 1) x = .nx (xs.set (xs.length - 1) x) := by
  unfold setR
  rw [ix_lastI h]
theorem mem_cut {α : Type} {xs : List α} {lo hi : Option Int} {x : α} (h : x ∈ cutL xs lo hi) : x ∈ xs := List.mem_of_mem_drop (List.mem_of_mem_take h)
/-- each period divides the next one's -/
def Dv (js : List Job) : Prop := ∀ (i : Nat) (a b : Job), js[i]? = some a → js[i + 1]? = some b → a.2.1 ∣ b.2.1
theorem dividing_ok {nums : List Int} (h : Nn nums) : OutR (f_law_dividing nums) (fun r => AllJ r.1 ∧ 1 ≤ r.1.length ∧ r.1.length ≤ 4 ∧ Dv r.1 ∧ Nn r.2) (fun _ => False) := by
  refine o_fin ?_
  unfold m_law_dividing
  refine o_lt ?_
  refine o_bindR ((draw_ok h (by omega)).imp (fun r2 q => ?_) fun _ q => q)
  obtain ⟨q1, q2, q3⟩ := q
  refine o_lt ?_
  refine o_bindR ((draw_ok q3 (by omega)).imp (fun r4 q => ?_) fun _ q => q)
  obtain ⟨u1, u2, u3⟩ := q
  refine o_bindR (o_eq (rngR_nx (by omega)) ?_)
  refine o_bind ?_
  refine o_for (fun k (s : List Int × List Job × Int) => Nn s.1 ∧ AllJ s.2.1 ∧ s.2.1.length = k ∧ Dv s.2.1 ∧ 1 ≤ s.2.2 ∧ s.2.2 ≤ 24 ∧ ∀ j, s.2.1[s.2.1.length - 1]? = some j → j.2.1 ∣ s.2.2)
    ⟨u3, fun j hj => (nomatch hj), rfl, fun i a b ha => (nomatch ha), by show 1 ≤ 1 + r2.1; omega, by show 1 + r2.1 ≤ 24; omega, fun j hj => (nomatch hj)⟩ (fun k s b hb hs => ?_) fun s hs => ?_
  · obtain ⟨h1, h2, h3, h4, h5, h6, h7⟩ := hs
    have hk : k < 4 := by
      have l := (List.getElem?_eq_some_iff.mp hb).1
      rw [rangeL_len] at l
      omega
    refine o_bindR ((draw_ok h1 (by omega)).imp (fun r8 q => ?_) fun _ q => q)
    obtain ⟨a1, a2, a3⟩ := q
    have mx : 0 < maxI 1 (s.2.2 / 2) := by unfold maxI; split <;> omega
    refine o_bindR (o_eq (modR_nx mx) ?_)
    have p1 := Int.emod_nonneg r8.1 (show maxI 1 (s.2.2 / 2) ≠ 0 by omega)
    generalize r8.1 % maxI 1 (s.2.2 / 2) = p at p1
    refine o_lt ?_
    refine o_bindR ((draw_ok a3 (by omega)).imp (fun r11 q => ?_) fun _ q => q)
    obtain ⟨c1, c2, c3⟩ := q
    rw [appR_nx (by omega)]
    refine o_bindR (o_eq rfl ?_)
    refine o_bindR ((draw_ok c3 (by omega)).imp (fun r13 q => ?_) fun _ q => q)
    obtain ⟨d1, d2, d3⟩ := q
    have m1 : mulR s.2.2 (1 + r13.1) = .nx (s.2.2 * (1 + r13.1)) := mulR_nx (.inl (by omega))
    rw [m1]
    refine o_bindR (o_eq rfl ?_)
    have new : okJ (minI (1 + p) 12, s.2.2, r11.1) := by
      refine ⟨?_, ?_, h5, h6, c1, c2⟩
      · show 1 ≤ minI (1 + p) 12; unfold minI; split <;> omega
      · show minI (1 + p) 12 ≤ 12; unfold minI; split <;> omega
    have nj := h2.app new
    generalize hj : ((minI (1 + p) 12, s.2.2, r11.1) : Job) = jn at new nj
    have jn2 : jn.2.1 = s.2.2 := by rw [← hj]
    have dv : Dv (s.2.1 ++ [jn]) := fun i a b ha hb => by
      have hi : i + 1 < (s.2.1 ++ [jn]).length := (List.getElem?_eq_some_iff.mp hb).1
      rw [List.length_append, List.length_cons, List.length_nil] at hi
      by_cases he : i + 1 < s.2.1.length
      · rw [List.getElem?_append_left (by omega)] at ha
        rw [List.getElem?_append_left he] at hb
        exact h4 i a b ha hb
      · have e1 : i + 1 = s.2.1.length := by omega
        rw [List.getElem?_append_left (by omega)] at ha
        rw [e1, List.getElem?_append_right (by omega), Nat.sub_self] at hb
        cases hb
        rw [jn2]
        exact h7 a (by rw [← e1, Nat.add_sub_cancel]; exact ha)
    have last : ∀ j, (s.2.1 ++ [jn])[(s.2.1 ++ [jn]).length - 1]? = some j → j = jn := fun j e => by
      simp at e
      exact e.symm
    refine o_ite (fun z => ?_) fun z => ?_
    · have z' : s.2.2 * (1 + r13.1) ≤ 24 := of_decide_eq_true z
      refine ⟨d3, nj, by simp [h3], dv, ?_, z', fun j e => ?_⟩
      · have := Int.mul_le_mul_of_nonneg_left (show 1 ≤ 1 + r13.1 by omega) (show 0 ≤ s.2.2 by omega)
        show 1 ≤ s.2.2 * (1 + r13.1)
        omega
      · rw [last j e, jn2]
        exact Int.dvd_mul_right _ _
    · exact ⟨d3, nj, by simp [h3], dv, h5, h6, fun j e => by rw [last j e, jn2]; exact Int.dvd_refl _⟩
  · obtain ⟨h1, h2, h3, h4, h5, h6, h7⟩ := hs
    rw [rangeL_len] at h3
    have hn : 1 ≤ s.2.1.length ∧ s.2.1.length ≤ 4 := by omega
    obtain ⟨l, hl⟩ : ∃ l, s.2.1[s.2.1.length - 1]? = some l := ⟨_, List.getElem?_eq_getElem (by omega)⟩
    have ol := h2 l (List.mem_of_getElem? hl)
    obtain ⟨l1, l2, l3, l4, l5, l6⟩ := id ol
    have hi := idx_lastI hl
    rw [hi]
    refine o_bindR (o_eq rfl ?_)
    refine o_bind ?_
    refine o_for (fun _ _ => True) trivial (fun i s' b hb _ => ?_) fun left _ => ?_
    · obtain ⟨b1, b2, b3, b4, b5, b6⟩ := h2 b (mem_cut (List.mem_of_getElem? hb))
      refine o_bindR (o_eq rfl ?_)
      rw [divR_nx (by omega) (by omega)]
      refine o_bindR (o_eq rfl ?_)
      rw [mulR_nx (.inl (by omega))]
      refine o_bindR (o_eq rfl ?_)
      trivial
    · refine o_bindR ((draw_ok h1 (by omega)).imp (fun r22 q => ?_) fun _ q => q)
      obtain ⟨d1, d2, d3⟩ := q
      have hx : ∃ x, idx ([(0 : Int), (1 : Int), (-(1 : Int)), (0 : Int)]) r22.1 = .nx x := by
        rcases (show r22.1 = 0 ∨ r22.1 = 1 ∨ r22.1 = 2 ∨ r22.1 = 3 by omega) with e | e | e | e <;> rw [e] <;> exact ⟨_, rfl⟩
      obtain ⟨x, hx⟩ := hx
      rw [hx]
      refine o_bindR (o_eq rfl ?_)
      refine o_lt (o_bind ?_)
      refine o_ite (fun z => ?_) fun z => ?_
      · obtain ⟨z1, z2⟩ := Bool.and_eq_true_iff.mp z
        have z1' := of_decide_eq_true z1
        have z2' := of_decide_eq_true z2
        refine o_bindR (o_eq rfl ?_)
        refine o_bindR (o_eq rfl ?_)
        rw [setR_lastI hn.1]
        refine o_bindR (o_eq rfl ?_)
        have nw : okJ (left + x, l.2.1, l.2.2) := ⟨z1', z2', l3, l4, l5, l6⟩
        refine ⟨fun u hu => ?_, by rw [List.length_set]; exact hn.1, by rw [List.length_set]; exact hn.2, fun i a b ha hb => ?_, d3⟩
        · rcases List.mem_or_eq_of_mem_set hu with hu | hu
          · exact h2 u hu
          · rw [hu]; exact nw
        · have hib : i + 1 < s.2.1.length := by
            have := (List.getElem?_eq_some_iff.mp hb).1
            rwa [List.length_set] at this
          rw [List.getElem?_set_ne (by omega)] at ha
          by_cases he : s.2.1.length - 1 = i + 1
          · rw [he, List.getElem?_set_self hib] at hb
            cases hb
            exact h4 i a l ha (by rw [← he]; exact hl)
          · rw [List.getElem?_set_ne he] at hb
            exact h4 i a b ha hb
      · exact ⟨h2, hn.1, hn.2, h4, d3⟩
end Lw

set_option Elab.async false
set_option linter.all false
set_option maxRecDepth 100000
set_option maxHeartbeats 1000000
namespace Lw
open PySem L2 Gv
/-! ### dividing periods -/
theorem loadS_snoc (js : List Job) (j : Job) (x : Int) : loadS (js ++ [j]) x = loadS js x + j.1 * cl x j.2.1 := by
  unfold loadS
  simp
theorem cl_exact {x T : Int} (h : 0 < T) (hd : T ∣ x) : cl x T * T = x := by
  obtain ⟨k, rfl⟩ := hd
  unfold cl
  have : -(T * k) / T = -k := by
    rw [← Int.mul_neg, Int.mul_ediv_cancel_left _ (by omega)]
  rw [this, Int.neg_neg, Int.mul_comm]
theorem cl_ge {x T : Int} (h : 0 < T) : x ≤ cl x T * T := by
  unfold cl
  have e := Int.mul_ediv_add_emod (-x) T
  have r0 := Int.emod_nonneg (-x) (show T ≠ 0 by omega)
  rw [Int.neg_mul, Int.mul_comm]
  omega
theorem cl_one {x T : Int} (h1 : 1 ≤ x) (h2 : x ≤ T) : cl x T = 1 := by
  have e := cl_eq (x := x) (T := T) (by omega)
  rw [← e]
  have : x + T - 1 = (x - 1) + T * 1 := by omega
  rw [this, Int.add_mul_ediv_left _ _ (by omega), Int.ediv_eq_zero_of_lt (by omega) (by omega)]
  rfl
theorem rawS_int (s : Nat × Nat) {j : Job} (h : okJ j) : ((rawS s j).1 : Int) = (s.1 : Int) * j.2.1 + j.1 * (s.2 : Int) ∧ ((rawS s j).2 : Int) = (s.2 : Int) * j.2.1 := by
  obtain ⟨c, t, e1, e2, _⟩ := h.nat
  unfold rawS
  rw [e1, e2]
  simp
theorem sum_exact : ∀ (l : List Job), AllJ l → ∀ M : Int, (∀ j, j ∈ l → j.2.1 ∣ M) → loadS l.reverse M * ((raw l.reverse).2 : Int) = ((raw l.reverse).1 : Int) * M
  | [], _, M, _ => by simp [loadS, raw]
  | j :: l, h, M, hd => by
    have ih := sum_exact l (fun u hu => h u (List.mem_cons_of_mem _ hu)) M fun u hu => hd u (List.mem_cons_of_mem _ hu)
    have hj := h j List.mem_cons_self
    obtain ⟨o1, o2, o3, o4, o5, o6⟩ := id hj
    rw [List.reverse_cons, raw_snoc, loadS_snoc, (rawS_int _ hj).1, (rawS_int _ hj).2]
    have ce := cl_exact (T := j.2.1) (by omega) (hd j List.mem_cons_self)
    generalize cl M j.2.1 = q at ce
    generalize loadS l.reverse M = S at ih
    generalize ((raw l.reverse).1 : Int) = N at ih
    generalize ((raw l.reverse).2 : Int) = D at ih
    generalize j.2.1 = t at ce
    generalize j.1 = c
    calc (S + c * q) * (D * t) = (S * D) * t + c * D * (q * t) := by rw [Int.add_mul]; congr 1 <;> ac_rfl
      _ = (N * M) * t + c * D * M := by rw [ih, ce]
      _ = (N * t + c * D) * M := by rw [Int.add_mul]; congr 1; ac_rfl
theorem sum_ge : ∀ (l : List Job), AllJ l → ∀ x : Int, ((raw l.reverse).1 : Int) * x ≤ ((raw l.reverse).2 : Int) * loadS l.reverse x
  | [], _, x => by simp [loadS, raw]
  | j :: l, h, x => by
    have ih := sum_ge l (fun u hu => h u (List.mem_cons_of_mem _ hu)) x
    have hj := h j List.mem_cons_self
    obtain ⟨o1, o2, o3, o4, o5, o6⟩ := id hj
    rw [List.reverse_cons, raw_snoc, loadS_snoc, (rawS_int _ hj).1, (rawS_int _ hj).2]
    have ce := cl_ge (x := x) (T := j.2.1) (by omega)
    have d0 : 0 ≤ ((raw l.reverse).2 : Int) := by omega
    generalize cl x j.2.1 = q at ce
    generalize loadS l.reverse x = S at ih
    generalize ((raw l.reverse).1 : Int) = N at ih
    generalize ((raw l.reverse).2 : Int) = D at ih d0
    generalize j.2.1 = t at ce o3
    generalize j.1 = c at o1
    have p1 : N * x * t ≤ D * S * t := Int.mul_le_mul_of_nonneg_right ih (by omega)
    have p2 : (c * D) * x ≤ (c * D) * (q * t) := Int.mul_le_mul_of_nonneg_left ce (Int.mul_nonneg (by omega) d0)
    calc (N * t + c * D) * x = N * x * t + c * D * x := by rw [Int.add_mul]; congr 1; ac_rfl
      _ ≤ D * S * t + c * D * (q * t) := Int.add_le_add p1 p2
      _ = D * t * (S + c * q) := by rw [Int.mul_add]; congr 1 <;> ac_rfl
theorem raw_le_prefix : ∀ (l : List Job), AllJ l → ∀ m, (raw l.reverse).1 ≤ (raw l.reverse).2 → (raw (l.drop m).reverse).1 ≤ (raw (l.drop m).reverse).2
  | [], _, m, h => by simpa using h
  | j :: l, h, 0, hl => hl
  | j :: l, h, m + 1, hl => by
    refine raw_le_prefix l (fun u hu => h u (List.mem_cons_of_mem _ hu)) m ?_
    have hj := h j List.mem_cons_self
    obtain ⟨o1, o2, o3, o4, o5, o6⟩ := id hj
    rw [List.reverse_cons, raw_snoc] at hl
    have hl' : ((rawS (raw l.reverse) j).1 : Int) ≤ ((rawS (raw l.reverse) j).2 : Int) := by omega
    rw [(rawS_int _ hj).1, (rawS_int _ hj).2] at hl'
    have p : 0 ≤ j.1 * ((raw l.reverse).2 : Int) := Int.mul_nonneg (by omega) (by omega)
    have q : ((raw l.reverse).1 : Int) * j.2.1 ≤ ((raw l.reverse).2 : Int) * j.2.1 := by omega
    have := Int.le_of_mul_le_mul_right q (by omega)
    omega
section
variable {js : List Job}
theorem raw_le_take (h : AllJ js) (hle : (raw js).1 ≤ (raw js).2) (i : Nat) : (raw (js.take i)).1 ≤ (raw (js.take i)).2 := by
  have q := raw_le_prefix js.reverse (fun u hu => h u (List.mem_reverse.mp hu)) (js.length - i) (by rw [List.reverse_reverse]; exact hle)
  rw [List.drop_reverse, List.reverse_reverse] at q
  by_cases hi : i ≤ js.length
  · rw [show js.length - (js.length - i) = i by omega] at q
    exact q
  · rw [List.take_of_length_le (by omega)]
    exact hle
theorem sum_exact' (h : AllJ js) {M : Int} (hd : ∀ j, j ∈ js → j.2.1 ∣ M) : loadS js M * ((raw js).2 : Int) = ((raw js).1 : Int) * M := by
  have q := sum_exact js.reverse (fun u hu => h u (List.mem_reverse.mp hu)) M fun u hu => hd u (List.mem_reverse.mp hu)
  rw [List.reverse_reverse] at q
  exact q
theorem sum_ge' (h : AllJ js) (x : Int) : ((raw js).1 : Int) * x ≤ ((raw js).2 : Int) * loadS js x := by
  have q := sum_ge js.reverse (fun u hu => h u (List.mem_reverse.mp hu)) x
  rw [List.reverse_reverse] at q
  exact q
theorem Dv.le (h : Dv js) : ∀ (n i : Nat) (a b : Job), js[i]? = some a → js[i + n]? = some b → a.2.1 ∣ b.2.1
  | 0, i, a, b, ha, hb => by
    rw [Nat.add_zero, ha] at hb
    cases hb
    exact Int.dvd_refl _
  | n + 1, i, a, b, ha, hb => by
    have hi : i + n < js.length := by
      have := (List.getElem?_eq_some_iff.mp hb).1
      omega
    have e : js[i + n]? = some js[i + n] := List.getElem?_eq_getElem hi
    exact Int.dvd_trans (Dv.le h n i a _ ha e) (h (i + n) _ b e hb)
theorem due_le (h : AllJ js) : (due js).1 ≤ (due js).2 ↔ (raw js).1 ≤ (raw js).2 := by
  have d1 := (raw_bound js h).1
  have g1 : 0 < Nat.gcd (raw js).1 (raw js).2 := Nat.gcd_pos_of_pos_right _ d1
  obtain ⟨u, hu⟩ := Nat.gcd_dvd_left (raw js).1 (raw js).2
  obtain ⟨v, hv⟩ := Nat.gcd_dvd_right (raw js).1 (raw js).2
  unfold due
  generalize Nat.gcd (raw js).1 (raw js).2 = G at g1 hu hv
  rw [hu, hv, Nat.mul_div_cancel_left _ g1, Nat.mul_div_cancel_left _ g1]
  show ((u : Int) ≤ (v : Int)) ↔ _
  constructor
  · intro z
    exact Nat.mul_le_mul_left G (by omega)
  · intro z
    have := Nat.le_of_mul_le_mul_left z g1
    omega
theorem feas_dividing (h : AllJ js) (hn : 1 ≤ js.length) (hd : Dv js) : Feas js ↔ (due js).1 ≤ (due js).2 := by
  rw [due_le h]
  constructor
  · intro hf
    have e : js[js.length - 1]? = some js[js.length - 1] := List.getElem?_eq_getElem (by omega)
    obtain ⟨t, t1, t2, t3⟩ := hf _ _ e
    have ho := h _ (List.getElem_mem (l := js) (n := js.length - 1) (by omega))
    have split : js = js.take (js.length - 1) ++ [js[js.length - 1]] := by
      have q := List.take_succ (l := js) (i := js.length - 1)
      rw [show js.length - 1 + 1 = js.length by omega, List.take_length, e] at q
      exact q
    have s1 := loadS_snoc (js.take (js.length - 1)) js[js.length - 1] t
    rw [← split, cl_one t1 t2] at s1
    have s2 := sum_ge' h t
    have d1 := (raw_bound js h).1
    have s3 : ((raw js).2 : Int) * loadS js t ≤ ((raw js).2 : Int) * t := Int.mul_le_mul_of_nonneg_left (by omega) (by omega)
    have := Int.le_of_mul_le_mul_right (Int.le_trans s2 s3) (by omega)
    omega
  · intro hle i j hj
    have hi : i < js.length := (List.getElem?_eq_some_iff.mp hj).1
    have ho := h j (List.mem_of_getElem? hj)
    obtain ⟨o1, o2, o3, o4, o5, o6⟩ := id ho
    refine ⟨j.2.1, o3, Int.le_refl _, ?_⟩
    have e3 : js.take (i + 1) = js.take i ++ [j] := by
      rw [List.take_succ, hj]
      rfl
    have aj : AllJ (js.take (i + 1)) := fun u hu => h u (List.mem_of_mem_take hu)
    have q := sum_exact' aj (M := j.2.1) fun u hu => by
      obtain ⟨k, hk⟩ := List.getElem?_of_mem hu
      have hkl := (List.getElem?_eq_some_iff.mp hk).1
      rw [List.length_take] at hkl
      rw [List.getElem?_take_of_lt (by omega)] at hk
      exact hd.le (i - k) k u j hk (by rw [show k + (i - k) = i by omega]; exact hj)
    have r := raw_le_take h hle (i + 1)
    have d1 := (raw_bound _ aj).1
    have s1 := loadS_snoc (js.take i) j j.2.1
    rw [← e3, cl_one o3 (Int.le_refl _)] at s1
    have p : loadS (js.take (i + 1)) j.2.1 * ((raw (js.take (i + 1))).2 : Int) ≤ j.2.1 * ((raw (js.take (i + 1))).2 : Int) := by
      rw [q, Int.mul_comm j.2.1]
      exact Int.mul_le_mul_of_nonneg_right (by omega) (by omega)
    have := Int.le_of_mul_le_mul_right p (by omega)
    omega
end
end Lw

set_option Elab.async false
set_option linter.all false
set_option maxRecDepth 100000
set_option maxHeartbeats 1000000
namespace Lw
open PySem L2 Gv
/-! ### refusals -/
abbrev eJobs : Er := ⟨"BadNumber", [("word", (PyData.str ("jobs" : Str)))]⟩
abbrev eMany : Er := ⟨"TooMany", [("limit", (PyData.int (5 : Int)))]⟩
theorem o_ers {α : Type} {m : R α} {e : Er} (h : OutR m (fun _ => False) (fun x => x = e)) : m = .er e := by
  cases m with
  | nx a => exact h.elim
  | rt r => exact r.elim
  | bk r => exact r.elim
  | ct r => exact r.elim
  | er x => rw [show x = e from h]
  | stuck => exact h.elim
def wrongs : List PyData := [((dP3 PyData.int PyData.int PyData.int) ((0 : Int), (4 : Int), (0 : Int))), ((dP3 PyData.int PyData.int PyData.int) ((13 : Int), (24 : Int), (0 : Int))), ((dP3 PyData.int PyData.int PyData.int) ((1 : Int), (25 : Int), (0 : Int))), ((dP3 PyData.int PyData.int PyData.int) ((1 : Int), (0 : Int), (0 : Int))), ((dP3 PyData.int PyData.int PyData.int) ((1 : Int), (4 : Int), (4 : Int))), ((dP3 PyData.int PyData.int PyData.int) ((1 : Int), (4 : Int), (-(1 : Int)))), ((dP2 PyData.int PyData.int) ((1 : Int), (4 : Int))), (PyData.int (3 : Int))]
theorem check_bad {A B : List PyData} {x : PyData} (hA : ∀ y, y ∈ A → ∃ j, JD y j ∧ okJ j) (hx : x ∈ wrongs) (hl : (A ++ x :: B).length ≤ 5) : f_check_jobs (.tuple (A ++ x :: B)) = .er eJobs := by
  refine o_ers ?_
  refine o_fin ?_
  unfold m_check_jobs
  refine o_ite (fun z => nomatch z) fun _ => ?_
  refine o_bindR (o_eq rfl ?_)
  refine o_ite (fun z => absurd (of_decide_eq_true z) (by omega)) fun _ => ?_
  refine o_bindR (o_eq rfl (o_bind ?_))
  refine o_for (fun k _ => k ≤ A.length) (Nat.zero_le _) (fun i s y hy hi => ?_) fun s hs => ?_
  · by_cases he : i = A.length
    · subst he
      rw [List.getElem?_append_right (Nat.le_refl _), Nat.sub_self] at hy
      cases hy
      unfold wrongs at hx
      simp only [List.mem_cons, List.not_mem_nil, or_false] at hx
      rcases hx with rfl | rfl | rfl | rfl | rfl | rfl | rfl | rfl <;> exact (rfl : (eJobs : Er) = eJobs)
    · have hlt : i < A.length := by omega
      rw [List.getElem?_append_left hlt] at hy
      obtain ⟨j, hx2, h1, h2, h3, h4, h5, h6⟩ := hA y (List.mem_of_getElem? hy)
      rw [hx2.seq, hx2.len, hx2.a0, hx2.a1, hx2.a2]
      simp [whole_in_ok (x := j.1) (lo := 1) (hi := 12) ⟨h1, h2⟩, whole_in_ok (x := j.2.1) (lo := 1) (hi := 24) ⟨h3, h4⟩, intD_int, whole_in_ok (x := j.2.2) (lo := 0) (hi := j.2.1 - 1) ⟨h5, by omega⟩]
      exact hlt
  · rw [List.length_append, List.length_cons] at hs
    omega
theorem check_many {ds : List PyData} (h : 5 < ds.length) : f_check_jobs (.tuple ds) = .er eMany := by
  refine o_ers ?_
  refine o_fin ?_
  unfold m_check_jobs
  refine o_ite (fun z => nomatch z) fun _ => ?_
  refine o_bindR (o_eq rfl ?_)
  refine o_ite (fun _ => rfl) fun z => absurd (of_decide_eq_false z) (by omega)
theorem check_seven : f_check_jobs (.int 7) = .er eJobs := rfl
theorem try_er {ρ lam α β : Type} {e : Er} {f : α → O ρ lam β} {h : Er → O ρ lam β} : tryO (bindR (.er e) f) h = h e := rfl
theorem refused_of {d : PyData} {e : Er} {w : Int} (hw : w = 0 ∨ w = 1 ∨ w = 2) (h : f_check_jobs d = .er e) {t : Str} (ht : clO (ρ := Str) (lam := Empty) sub_BadNumber (fun x2 => bindR (fldR x2 "BadNumber" "word") fun t7 =>
bindR (strD t7) fun t8 =>
.nx t8) (clO sub_TooMany (fun x2 => bindR (fldR x2 "TooMany" "limit") fun t9 =>
bindR (intD t9) fun t11 =>
bindR (strR t11) fun t10 =>
.nx t10) (fun x => .er x)) e = .nx t) : f_law_refused (w, d) = .nx t := by
  have h1 : f_load d = .er e := by unfold f_load m_load; rw [h]; rfl
  have h2 : f_by_periods d = .er e := by unfold f_by_periods m_by_periods; rw [h]; rfl
  have h3 : f_never_misses d = .er e := by unfold f_never_misses m_never_misses; rw [h]; rfl
  unfold f_law_refused m_law_refused
  rw [lt_eq]
  rcases hw with rfl | rfl | rfl
  · rw [if_pos (show decide ((0 : Int) = 0) = true by decide), h1, try_er, ht]
    rfl
  · rw [if_neg (show ¬ decide ((1 : Int) = 0) = true by decide), if_pos (show decide ((1 : Int) = 1) = true by decide), h2, try_er, ht]
    rfl
  · rw [if_neg (show ¬ decide ((2 : Int) = 0) = true by decide), if_neg (show ¬ decide ((2 : Int) = 1) = true by decide), h3, try_er, ht]
    rfl
theorem five : strI 5 = ("5" : Str) := by decide +kernel
theorem refused_jobs {d : PyData} {w : Int} (hw : w = 0 ∨ w = 1 ∨ w = 2) (h : f_check_jobs d = .er eJobs) : f_law_refused (w, d) = .nx "jobs" :=
  refused_of hw h (by simp [clO, sub_BadNumber, noEr, fldR, strD, List.lookup])
theorem refused_many {d : PyData} {w : Int} (hw : w = 0 ∨ w = 1 ∨ w = 2) (h : f_check_jobs d = .er eMany) : f_law_refused (w, d) = .nx "5" :=
  refused_of hw h (by
    have n1 : ¬ (("TooMany" : Str) = "BadNumber") := by decide
    have s5 : strR 5 = .nx ("5" : Str) := by unfold strR; rw [five]; exact gd_true (by decide)
    simp [clO, sub_BadNumber, sub_TooMany, noEr, fldR, intD, List.lookup, n1, s5])
end Lw

set_option Elab.async false
set_option linter.all false
set_option maxRecDepth 100000
set_option maxHeartbeats 1000000
namespace Lw
open PySem L2 Gv
/-! ### by periods -/
def Tf (js : List Job) (i : Int) : Int := ((js[i.toNat]?).map fun j => j.2.1).getD 0
def prs (js : List Job) : List (Int × Int) := (enumL js).map fun b => (b.2.2.1, b.1)
def LL (x y : Int × Int) : Prop := x.1 < y.1 ∨ (x.1 = y.1 ∧ x.2 < y.2)
theorem LL_uniq : ∀ {l m : List (Int × Int)}, l.Pairwise LL → m.Pairwise LL → (∀ x, x ∈ l ↔ x ∈ m) → l = m
  | [], [], _, _, _ => rfl
  | [], y :: m, _, _, h => by have := (h y).mpr List.mem_cons_self; cases this
  | x :: l, [], _, _, h => by have := (h x).mp List.mem_cons_self; cases this
  | x :: l, y :: m, hl, hm, h => by
    obtain ⟨l1, l2⟩ := List.pairwise_cons.mp hl
    obtain ⟨m1, m2⟩ := List.pairwise_cons.mp hm
    have e : x = y := by
      rcases List.mem_cons.mp ((h x).mp List.mem_cons_self) with e | hx
      · exact e
      · rcases List.mem_cons.mp ((h y).mpr List.mem_cons_self) with e | hy
        · exact e.symm
        · have a := m1 x hx
          have b := l1 y hy
          unfold LL at a b
          omega
    subst e
    have irr : ∀ z, ¬ LL z z := fun z hz => by unfold LL at hz; omega
    rw [LL_uniq l2 m2 fun z => ?_]
    constructor
    · intro hz
      rcases List.mem_cons.mp ((h z).mp (List.mem_cons_of_mem _ hz)) with e | q
      · rw [e] at hz; exact absurd (l1 x hz) (irr x)
      · exact q
    · intro hz
      rcases List.mem_cons.mp ((h z).mpr (List.mem_cons_of_mem _ hz)) with e | q
      · rw [e] at hz; exact absurd (m1 x hz) (irr x)
      · exact q
theorem mem_prs {js : List Job} {x : Int × Int} : x ∈ prs js ↔ 0 ≤ x.2 ∧ x.2 < js.length ∧ x.1 = Tf js x.2 := by
  unfold prs
  rw [List.mem_map]
  constructor
  · rintro ⟨b, hb, rfl⟩
    obtain ⟨k, hk⟩ := List.getElem?_of_mem hb
    obtain ⟨h1, h2⟩ := enumL_get hk
    have hl := (List.getElem?_eq_some_iff.mp h2).1
    refine ⟨by show 0 ≤ b.1; omega, by show b.1 < _; omega, ?_⟩
    show b.2.2.1 = Tf js b.1
    unfold Tf
    rw [h1, Int.toNat_natCast, h2]
    rfl
  · rintro ⟨h1, h2, h3⟩
    have hk : x.2.toNat < js.length := by omega
    have e : js[x.2.toNat]? = some js[x.2.toNat] := List.getElem?_eq_getElem hk
    refine ⟨(x.2, js[x.2.toNat]), ?_, ?_⟩
    · unfold enumL
      rw [List.mem_map]
      refine ⟨(js[x.2.toNat], x.2.toNat), ?_, ?_⟩
      · rw [List.mem_iff_getElem?]
        exact ⟨x.2.toNat, by rw [List.getElem?_zipIdx, e]; simp⟩
      · show (((x.2.toNat : Nat) : Int), _) = _
        rw [Int.toNat_of_nonneg h1]
    · show (js[x.2.toNat].2.1, x.2) = x
      have : x.1 = js[x.2.toNat].2.1 := by rw [h3]; unfold Tf; rw [e]; rfl
      rw [← this]
theorem prs_nodup (js : List Job) : (prs js).Nodup := by
  unfold prs enumL
  rw [List.map_map]
  have h : ((js.zipIdx).map fun p => ((p.2 : Nat) : Int)).Nodup := by
    have e : (js.zipIdx).map (fun p => ((p.2 : Nat) : Int)) = (List.range js.length).map fun n => ((n : Nat) : Int) := by
      apply List.ext_getElem?
      intro k
      rw [List.getElem?_map, List.getElem?_map, List.getElem?_zipIdx]
      by_cases hk : k < js.length
      · rw [List.getElem?_eq_getElem hk, List.getElem?_range hk]
        simp
      · rw [List.getElem?_eq_none (by omega), List.getElem?_eq_none (by simp; omega)]
        rfl
    rw [e]
    exact List.pairwise_map.mpr ((List.nodup_range (n := js.length)).imp fun {a b} hab z => hab (Int.ofNat.inj z))
  exact List.pairwise_map.mpr ((List.pairwise_map.mp h).imp fun {a b} hab z => hab (by
    have : (((b.2 : Nat) : Int)) = ((a.2 : Nat) : Int) := by
      have := congrArg Prod.snd z
      simpa using this.symm
    exact this.symm))
theorem sorted_LL (js : List Job) : (sortP (prs js)).Pairwise LL := by
  have h1 := sortP_sorted (prs js)
  have h2 : (sortP (prs js)).Nodup := (sortP_perm (prs js)).nodup_iff.mpr (prs_nodup js)
  refine (h1.and h2).imp fun {x y} h => ?_
  have a := SrtO.lexB_no.mp h.1
  have b := h.2
  obtain ⟨x1, x2⟩ := x
  obtain ⟨y1, y2⟩ := y
  unfold LL
  simp only [ne_eq, Prod.mk.injEq] at a b ⊢
  omega
def byP (js : List Job) : List Int := (sortP (prs js)).map fun x => x.2
section
variable {d : PyData} {ds : List PyData} {js : List Job}
theorem by_periods_ok (h : JsD d ds js) (hok : ∀ j, j ∈ js → okJ j) (hl : js.length ≤ 5) : f_by_periods d = .nx (byP js) := by
  obtain ⟨r, e, q⟩ := o_val (m := f_by_periods d) (N := fun r => r = byP js) (by
    refine o_fin ?_
    unfold m_by_periods
    refine o_bindR (o_eq (check_ok h hok hl) ?_)
    refine o_bindR (o_eq h.items ?_)
    refine o_bindR (o_lcR (fun b => ((jobOf b.2).2.1, b.1)) (fun b hb => ?_) ?_ ?_)
    · obtain ⟨k, hk⟩ := List.getElem?_of_mem hb
      obtain ⟨h1, h2⟩ := enumL_get hk
      obtain ⟨j, hj, hjd⟩ := h.at_ k _ h2
      refine o_r (o_bindR (o_eq hjd.a1 ?_))
      refine o_bindR (o_eq rfl ?_)
      show _ = _
      rw [hjd.job]
    · rw [enumL_len, h.len]; omega
    · refine o_lt ?_
      have e1 : (enumL ds).map (fun b => ((jobOf b.2).2.1, b.1)) = prs js := by
        unfold prs
        rw [← h.jobs]
        unfold enumL
        rw [List.map_map, List.map_map, List.zipIdx_map, List.map_map]
        rfl
      show Out (bindR (lcR _ (sortP ((enumL ds).map (fun b => ((jobOf b.2).2.1, b.1)))) () []) _) _ _ _ _ _
      rw [e1]
      refine o_bindR (o_lcR (fun x : Int × Int => x.2) (fun b hb => ?_) ?_ ?_)
      · exact o_r (show _ = _ from rfl)
      · have q1 := (sortP_perm (prs js)).length_eq
        have q2 : (prs js).length = js.length := by unfold prs; rw [List.length_map, enumL_len]
        omega
      · exact rfl)
  rw [e, q]
end
end Lw

set_option Elab.async false
set_option linter.all false
set_option maxRecDepth 100000
set_option maxHeartbeats 1000000
namespace Lw
open PySem L2 Gv
theorem pairwise_snoc {α : Type} {R : α → α → Prop} {l : List α} {x : α} (h : l.Pairwise R) (hx : ∀ y, y ∈ l → R y x) : (l ++ [x]).Pairwise R :=
  List.pairwise_append.mpr ⟨h, List.pairwise_singleton _ _, fun y hy z hz => by
    have : z = x := by simpa using hz
    rw [this]; exact hx y hy⟩
theorem byP_mem {js : List Job} {x : Int} : x ∈ byP js ↔ 0 ≤ x ∧ x < js.length := by
  unfold byP
  rw [List.mem_map]
  constructor
  · rintro ⟨p, hp, rfl⟩
    have := mem_prs.mp ((sortP_perm (prs js)).mem_iff.mp hp)
    exact ⟨this.1, this.2.1⟩
  · rintro ⟨h1, h2⟩
    exact ⟨(Tf js x, x), (sortP_perm (prs js)).mem_iff.mpr (mem_prs.mpr ⟨h1, h2, rfl⟩), rfl⟩
section
variable {js : List Job}
theorem law_by_periods_ok (hok : AllJ js) (hl : js.length ≤ 5) : f_law_by_periods js = .nx (byP js) := by
  obtain ⟨r, e, q⟩ := o_val (m := f_law_by_periods js) (N := fun r => r = byP js) (by
    refine o_fin ?_
    unfold m_law_by_periods
    refine o_lt ?_
    refine o_bindR (o_eq (rngR_nx (by omega)) ?_)
    refine o_bind ?_
    refine o_for (fun k (s : List Int) => (s.map fun i => (Tf js i, i)).Pairwise LL ∧ (∀ x, x ∈ s ↔ (0 ≤ x ∧ x < js.length) ∧ Tf js x < 1 + (k : Int)) ∧ s.length ≤ 5 * k) ⟨.nil, fun x => ⟨fun hx => (nomatch hx), fun hx => ?_⟩, by simp⟩ (fun k s b hb hs => ?_) fun s hs => ?_
    · exfalso
      obtain ⟨⟨h1, h2⟩, h3⟩ := hx
      have hk : x.toNat < js.length := by omega
      have e : js[x.toNat]? = some js[x.toNat] := List.getElem?_eq_getElem hk
      have o := hok _ (List.getElem_mem hk)
      have : Tf js x = js[x.toNat].2.1 := by unfold Tf; rw [e]; rfl
      have o3 := o.2.2.1
      omega
    · obtain ⟨h1, h2, h3⟩ := hs
      have hb1 := rangeL_get hb
      have hk : k < 24 := by
        have l := (List.getElem?_eq_some_iff.mp hb).1
        rw [rangeL_len] at l
        omega
      refine o_bindR (o_eq (rngR_nx (by omega)) ?_)
      refine o_bind ?_
      refine o_for (fun m (s' : List Int) => (s'.map fun i => (Tf js i, i)).Pairwise LL ∧ (∀ x, x ∈ s' ↔ (0 ≤ x ∧ x < js.length) ∧ (Tf js x < b ∨ Tf js x = b ∧ x < m)) ∧ s'.length ≤ 5 * k + m)
        ⟨h1, fun x => ⟨fun hx => ?_, fun hx => ?_⟩, by simpa using h3⟩ (fun m s' c hc h => ?_) fun s' h => ?_
      · have := (h2 x).mp hx
        exact ⟨this.1, .inl (by omega)⟩
      · refine (h2 x).mpr ⟨hx.1, ?_⟩
        rcases hx.2 with q | q
        · omega
        · have := hx.1.1; omega
      · obtain ⟨g1, g2, g3⟩ := h
        obtain ⟨rfl, hm⟩ := rangeL_get0 hc
        have e : js[m]? = some js[m] := List.getElem?_eq_getElem hm
        have tm : Tf js (m : Int) = js[m].2.1 := by unfold Tf; rw [Int.toNat_natCast, e]; rfl
        refine o_bindR (o_eq (idx_nat e) ?_)
        refine o_ite (fun z => ?_) fun z => ?_
        · have z' : js[m].2.1 = b := of_decide_eq_true z
          rw [appR_nx (by omega)]
          refine o_bindR (o_eq rfl ?_)
          refine ⟨?_, fun x => ⟨fun hx => ?_, fun hx => ?_⟩, by simp; omega⟩
          · rw [List.map_append]
            refine pairwise_snoc g1 fun y hy => ?_
            obtain ⟨i, hi, rfl⟩ := List.mem_map.mp hy
            have := (g2 i).mp hi
            show Tf js i < Tf js (m : Int) ∨ Tf js i = Tf js (m : Int) ∧ i < (m : Int)
            rw [tm, z']
            exact this.2
          · rcases List.mem_append.mp hx with hx | hx
            · have := (g2 x).mp hx
              refine ⟨this.1, ?_⟩
              rcases this.2 with q | q
              · exact .inl q
              · exact .inr ⟨q.1, by omega⟩
            · have : x = (m : Int) := by simpa using hx
              subst this
              exact ⟨⟨by omega, by omega⟩, .inr ⟨by rw [tm, z'], by omega⟩⟩
          · refine List.mem_append.mpr ?_
            rcases hx.2 with q | q
            · exact .inl ((g2 x).mpr ⟨hx.1, .inl q⟩)
            · by_cases hxm : x = (m : Int)
              · exact .inr (by simp [hxm])
              · exact .inl ((g2 x).mpr ⟨hx.1, .inr ⟨q.1, by omega⟩⟩)
        · have z' : ¬ js[m].2.1 = b := of_decide_eq_false z
          refine ⟨g1, fun x => ⟨fun hx => ?_, fun hx => ?_⟩, show s'.length ≤ 5 * k + (m + 1) by omega⟩
          · have := (g2 x).mp hx
            refine ⟨this.1, ?_⟩
            rcases this.2 with q | q
            · exact .inl q
            · exact .inr ⟨q.1, by omega⟩
          · refine (g2 x).mpr ⟨hx.1, ?_⟩
            rcases hx.2 with q | q
            · exact .inl q
            · refine .inr ⟨q.1, ?_⟩
              by_cases hxm : x = (m : Int)
              · rw [hxm, tm] at q
                exact absurd q.1 z'
              · omega
      · obtain ⟨g1, g2, g3⟩ := h
        rw [rangeL_len] at g2 g3
        refine ⟨g1, fun x => ⟨fun hx => ?_, fun hx => ?_⟩, by show s'.length ≤ 5 * (k + 1); omega⟩
        · have := (g2 x).mp hx
          refine ⟨this.1, ?_⟩
          rcases this.2 with q | q <;> omega
        · refine (g2 x).mpr ⟨hx.1, ?_⟩
          have := hx.1
          by_cases hq : Tf js x < b
          · exact .inl hq
          · exact .inr ⟨by omega, by omega⟩
    · obtain ⟨h1, h2, h3⟩ := hs
      rw [rangeL_len] at h2
      refine o_rt ?_
      have e1 : s.map (fun i => (Tf js i, i)) = sortP (prs js) := by
        refine LL_uniq h1 (sorted_LL js) fun x => ?_
        rw [(sortP_perm (prs js)).mem_iff, mem_prs, List.mem_map]
        constructor
        · rintro ⟨i, hi, rfl⟩
          have := (h2 i).mp hi
          exact ⟨this.1.1, this.1.2, rfl⟩
        · rintro ⟨q1, q2, q3⟩
          refine ⟨x.2, (h2 x.2).mpr ⟨⟨q1, q2⟩, ?_⟩, by rw [← q3]⟩
          have hk : x.2.toNat < js.length := by omega
          have e : js[x.2.toNat]? = some js[x.2.toNat] := List.getElem?_eq_getElem hk
          have o := hok _ (List.getElem_mem hk)
          have : Tf js x.2 = js[x.2.toNat].2.1 := by unfold Tf; rw [e]; rfl
          have o4 := o.2.2.2.1
          omega
      unfold byP
      rw [← e1, List.map_map]
      exact (List.map_id s).symm)
  rw [e, q]
end
end Lw

set_option Elab.async false
set_option linter.all false
set_option maxRecDepth 100000
set_option maxHeartbeats 1000000
namespace Lw
open PySem L2 Gv
/-! ### all orders -/
def insO (k : Int) (l : List Int) (a : Nat) : List Int := l.take a ++ [k] ++ l.drop a
def insAll (k : Int) (l : List Int) : List (List Int) := (List.range (l.length + 1)).map (insO k l)
def stepO (k : Int) (os : List (List Int)) : List (List Int) := os.flatMap (insAll k)
def ords : Nat → List (List Int)
  | 0 => [[]]
  | n + 1 => stepO n (ords n)
theorem rangeL_succ (n : Nat) : rangeL 0 ((n + 1 : Nat) : Int) = rangeL 0 (n : Int) ++ [(n : Int)] := by
  unfold rangeL
  rw [show (((n + 1 : Nat) : Int) - 0).toNat = n + 1 by omega, show ((n : Int) - 0).toNat = n by omega, List.range_succ, List.map_append]
  simp
theorem insO_perm (k : Int) (l : List Int) (a : Nat) : (insO k l a).Perm (l ++ [k]) := by
  unfold insO
  have h1 : (l.take a ++ [k] ++ l.drop a).Perm (l.take a ++ (l.drop a ++ [k])) := by
    rw [List.append_assoc]
    exact (List.perm_append_comm (l₁ := [k]) (l₂ := l.drop a)).append_left _
  rw [← List.append_assoc, List.take_append_drop] at h1
  exact h1
theorem ords_perm : ∀ (n : Nat) (l : List Int), l ∈ ords n → l.Perm (rangeL 0 (n : Int))
  | 0, l, h => by
    have : l = [] := by simpa [ords] using h
    rw [this]
    exact .nil
  | n + 1, l, h => by
    unfold ords stepO at h
    obtain ⟨m, hm, hl⟩ := List.mem_flatMap.mp h
    unfold insAll at hl
    obtain ⟨a, _, rfl⟩ := List.mem_map.mp hl
    rw [rangeL_succ]
    exact (insO_perm _ m a).trans ((ords_perm n m hm).append_right _)
theorem perm_ords : ∀ (n : Nat) (l : List Int), l.Perm (rangeL 0 (n : Int)) → l ∈ ords n
  | 0, l, h => by
    have : l = [] := List.Perm.eq_nil (by simpa [rangeL] using h)
    rw [this]
    exact List.mem_cons_self
  | n + 1, l, h => by
    rw [rangeL_succ] at h
    have hn : (n : Int) ∈ l := h.mem_iff.mpr (by simp)
    obtain ⟨A, B, rfl⟩ := List.append_of_mem hn
    have h2 : (A ++ B).Perm (rangeL 0 (n : Int)) := by
      have p1 : (A ++ (n : Int) :: B).Perm ((n : Int) :: (A ++ B)) := List.perm_middle
      have p2 : (rangeL 0 (n : Int) ++ [(n : Int)]).Perm ((n : Int) :: rangeL 0 (n : Int)) := List.perm_append_comm
      exact (p1.symm.trans (h.trans p2)).cons_inv
    have h3 := perm_ords n (A ++ B) h2
    unfold ords stepO
    refine List.mem_flatMap.mpr ⟨A ++ B, h3, ?_⟩
    unfold insAll
    refine List.mem_map.mpr ⟨A.length, List.mem_range.mpr (by rw [List.length_append]; omega), ?_⟩
    unfold insO
    rw [List.take_left', List.drop_left'] <;> simp
theorem insAll_len (k : Int) (l : List Int) : (insAll k l).length = l.length + 1 := by unfold insAll; simp
theorem stepO_len {k : Int} {m : Nat} : ∀ {os : List (List Int)}, (∀ l, l ∈ os → l.length = m) → (stepO k os).length = os.length * (m + 1)
  | [], _ => by simp [stepO]
  | l :: os, h => by
    have ih := stepO_len (k := k) (os := os) fun l hl => h l (List.mem_cons_of_mem _ hl)
    unfold stepO at ih ⊢
    rw [List.flatMap_cons, List.length_append, ih, insAll_len, h l List.mem_cons_self, List.length_cons, Nat.add_mul]
    omega
theorem ords_len (n : Nat) (l : List Int) (h : l ∈ ords n) : l.length = n := by
  have := (ords_perm n l h).length_eq
  rw [rangeL_len] at this
  omega
theorem ords_count : ∀ n : Nat, n ≤ 5 → (ords n).length ≤ 6 ^ n
  | 0, _ => by simp [ords]
  | n + 1, h => by
    have ih := ords_count n (by omega)
    unfold ords
    rw [stepO_len (ords_len n), Nat.pow_succ]
    exact Nat.mul_le_mul ih (by omega)
theorem pow6 {n : Nat} (h : n ≤ 5) : 6 ^ n ≤ 7776 := Nat.le_trans (Nat.pow_le_pow_right (by omega) h) (by decide)
theorem orders_ok {n : Nat} (hn : n ≤ 5) : f_law_orders (n : Int) = .nx (ords n) := by
  obtain ⟨r, e, q⟩ := o_val (m := f_law_orders (n : Int)) (N := fun r => r = ords n) (by
    refine o_fin ?_
    unfold m_law_orders
    refine o_lt ?_
    refine o_bindR (o_eq (rngR_nx (by omega)) ?_)
    refine o_bind ?_
    refine o_for (fun k (s : List (List Int)) => s = ords k) rfl (fun k s b hb hs => ?_) fun s hs => ?_
    · subst hs
      obtain ⟨rfl, hk⟩ := rangeL_get0 hb
      have cnt := Nat.le_trans (ords_count k (by omega)) (pow6 (n := k) (by omega))
      refine o_lt ?_
      refine o_bind ?_
      refine o_for (fun i (s : List (List Int)) => s = stepO k ((ords k).take i)) (by simp [stepO]) (fun i s l hl hs => ?_) fun s hs => ?_
      · subst hs
        have hlm := List.mem_of_getElem? hl
        have ll := ords_len k l hlm
        have sl : (stepO k ((ords k).take i)).length ≤ 7776 * 6 := by
          rw [stepO_len (m := k) fun u hu => ords_len k u (List.mem_of_mem_take hu)]
          exact Nat.mul_le_mul (by rw [List.length_take]; exact Nat.le_trans (Nat.min_le_right _ _) cnt) (by omega)
        refine o_bindR (o_eq (rngR_nx (by omega)) ?_)
        refine o_bind ?_
        refine o_for (fun a (s : List (List Int)) => s = stepO k ((ords k).take i) ++ (List.range a).map (insO k l)) (by simp) (fun a s x hx hs => ?_) fun s hs => ?_
        · subst hs
          have hx2 := rangeL_get0 (n := l.length + 1) (by simpa using hx)
          obtain ⟨rfl, ha⟩ := hx2
          rw [cut_to (by omega), cut_from (by omega)]
          rw [catR_nx (by simp; omega)]
          refine o_bindR (o_eq rfl ?_)
          rw [catR_nx (by simp; omega)]
          refine o_bindR (o_eq rfl ?_)
          rw [appR_nx (by simp; omega)]
          refine o_bindR (o_eq rfl ?_)
          show _ = _
          rw [List.range_succ, List.map_append, ← List.append_assoc]
          rfl
        · subst hs
          show _ = _
          rw [rangeL_len, List.take_succ, hl]
          show _ = stepO k ((ords k).take i ++ [l])
          unfold stepO insAll
          rw [List.flatMap_append]
          rw [show (((l.length : Int) + 1) - 0).toNat = l.length + 1 by omega]
          simp
      · rw [List.take_length] at hs
        exact hs
    · rw [rangeL_len, show ((n : Int) - 0).toNat = n by omega] at hs
      exact hs)
  rw [e, q]
end Lw

set_option Elab.async false
set_option linter.all false
set_option maxRecDepth 100000
set_option maxHeartbeats 1000000
namespace Lw
open PySem L2 Gv
/-! ### the best order is by periods -/
def jb (js : List Job) (i : Int) : Job := (js[i.toNat]?).getD (1, 1, 0)
def rk (js : List Job) (o : List Int) : List Job := o.map (jb js)
theorem sum_subset (f : Int → Int) : ∀ (S L : List Int), S.Nodup → (∀ x, x ∈ S → x ∈ L) → (∀ x, x ∈ L → 0 ≤ f x) → (S.map f).sum ≤ (L.map f).sum
  | [], L, _, _, hf => by
    have : ∀ l : List Int, (∀ x, x ∈ l → 0 ≤ f x) → 0 ≤ (l.map f).sum := fun l => by
      induction l with
      | nil => intro _; simp
      | cons x l ih =>
        intro h
        have a := h x List.mem_cons_self
        have b := ih fun y hy => h y (List.mem_cons_of_mem _ hy)
        simp only [List.map_cons, List.sum_cons]
        omega
    simpa using this L hf
  | x :: S, L, hn, hs, hf => by
    obtain ⟨n1, n2⟩ := List.nodup_cons.mp hn
    obtain ⟨A, B, rfl⟩ := List.append_of_mem (hs x List.mem_cons_self)
    have ih := sum_subset f S (A ++ B) n2 (fun y hy => by
      have := hs y (List.mem_cons_of_mem _ hy)
      rcases List.mem_append.mp this with h | h
      · exact List.mem_append_left _ h
      · rcases List.mem_cons.mp h with h | h
        · rw [h] at hy; exact absurd hy n1
        · exact List.mem_append_right _ h) fun y hy => hf y (by
      rcases List.mem_append.mp hy with h | h
      · exact List.mem_append_left _ h
      · exact List.mem_append_right _ (List.mem_cons_of_mem _ h))
    simp only [List.map_cons, List.sum_cons, List.map_append, List.sum_append] at ih ⊢
    omega
theorem least (P : Nat → Prop) : ∀ n, P n → ∃ m, P m ∧ ∀ k, k < m → ¬ P k := fun n => by
  induction n using Nat.strongRecOn with
  | _ n ih =>
    intro h
    by_cases q : ∃ k, k < n ∧ P k
    · obtain ⟨k, h1, h2⟩ := q
      exact ih k h1 h2
    · exact ⟨n, h, fun k hk hp => q ⟨k, hk, hp⟩⟩
section
variable {js : List Job}
theorem jb_get {i : Int} (h1 : 0 ≤ i) (h2 : i < js.length) : ∃ j, js[i.toNat]? = some j ∧ jb js i = j := by
  have hk : i.toNat < js.length := by omega
  have e : js[i.toNat]? = some js[i.toNat] := List.getElem?_eq_getElem hk
  exact ⟨_, e, by unfold jb; rw [e]; rfl⟩
theorem jb_ok (h : AllJ js) {i : Int} (h1 : 0 ≤ i) (h2 : i < js.length) : okJ (jb js i) := by
  obtain ⟨j, e, q⟩ := jb_get h1 h2
  rw [q]
  exact h j (List.mem_of_getElem? e)
theorem byP_perm (js : List Job) : (byP js).Perm (rangeL 0 (js.length : Int)) := by
  have h1 : (byP js).Perm ((prs js).map fun x => x.2) := (sortP_perm (prs js)).map _
  have h2 : (prs js).map (fun x => x.2) = rangeL 0 (js.length : Int) := by
    unfold prs enumL rangeL
    rw [List.map_map, List.map_map]
    apply List.ext_getElem?
    intro k
    rw [List.getElem?_map, List.getElem?_map, List.getElem?_zipIdx]
    by_cases hk : k < js.length
    · rw [List.getElem?_eq_getElem hk, List.getElem?_range (by omega)]
      simp
    · rw [List.getElem?_eq_none (by omega), List.getElem?_eq_none (by simp; omega)]
      rfl
  rw [h2] at h1
  exact h1
theorem byP_sorted (js : List Job) : (byP js).Pairwise fun x y => Tf js x ≤ Tf js y := by
  have h := sorted_LL js
  unfold byP
  refine List.pairwise_map.mpr ((List.pairwise_iff_getElem.mpr fun i j hi hj hij => ?_))
  have q := List.pairwise_iff_getElem.mp h i j hi hj hij
  have m1 := (mem_prs.mp ((sortP_perm (prs js)).mem_iff.mp (List.getElem_mem hi))).2.2
  have m2 := (mem_prs.mp ((sortP_perm (prs js)).mem_iff.mp (List.getElem_mem hj))).2.2
  rw [← m1, ← m2]
  unfold LL at q
  omega
theorem range_nodup (n : Nat) : (rangeL 0 (n : Int)).Nodup := by
  unfold rangeL
  exact List.pairwise_map.mpr ((List.nodup_range (n := ((n : Int) - 0).toNat)).imp fun {a b} hab z => hab (by omega))
theorem Tf_jb {i : Int} (h1 : 0 ≤ i) (h2 : i < js.length) : Tf js i = (jb js i).2.1 := by
  obtain ⟨j, e, q⟩ := jb_get h1 h2
  rw [q]
  unfold Tf
  rw [e]
  rfl
theorem exchange (h : AllJ js) {o : List Int} (ho : o.Perm (rangeL 0 (js.length : Int))) (hf : Feas (rk js o)) : Feas (rk js (byP js)) := by
  intro i j hj
  unfold rk at hj
  rw [List.getElem?_map] at hj
  cases ex : (byP js)[i]? with
  | none => rw [ex] at hj; cases hj
  | some x =>
    rw [ex] at hj
    have ej : jb js x = j := Option.some.inj hj
    have hi : i < (byP js).length := (List.getElem?_eq_some_iff.mp ex).1
    have memo : ∀ y, y ∈ o ↔ 0 ≤ y ∧ y < js.length := fun y => by rw [ho.mem_iff, mem_rangeL]
    have memb : ∀ y, y ∈ byP js ↔ 0 ≤ y ∧ y < js.length := fun y => byP_mem
    have hnb : (byP js).Nodup := (byP_perm js).nodup_iff.mpr (range_nodup _)
    -- the jobs up to place i
    have S1 : ∀ y, y ∈ (byP js).take (i + 1) → y ∈ byP js := fun y hy => List.mem_of_mem_take hy
    have e3 : (byP js).take (i + 1) = (byP js).take i ++ [x] := by
      rw [List.take_succ, ex]
      rfl
    obtain ⟨p, hp, hmin⟩ := least (fun p => ∀ y, y ∈ (byP js).take (i + 1) → y ∈ o.take (p + 1)) o.length fun y hy => by
      rw [List.take_of_length_le (by omega)]
      exact (memo y).mpr ((memb y).mp (S1 y hy))
    have hpl : p < o.length := by
      by_cases hc : p < o.length
      · exact hc
      · exfalso
        cases p with
        | zero =>
          have : o = [] := List.eq_nil_of_length_eq_zero (by omega)
          have hx := hp x (by rw [e3]; simp)
          rw [this] at hx
          cases hx
        | succ p =>
          refine hmin p (by omega) fun y hy => ?_
          have := hp y hy
          rw [List.take_of_length_le (by omega)] at this ⊢
          exact this
    have eo : o[p]? = some o[p] := List.getElem?_eq_getElem hpl
    have et : o.take (p + 1) = o.take p ++ [o[p]] := by
      rw [List.take_succ, eo]
      rfl
    have inS : o[p] ∈ (byP js).take (i + 1) := by
      by_cases hc : o[p] ∈ (byP js).take (i + 1)
      · exact hc
      · exfalso
        cases p with
        | zero =>
          have hx := hp x (by rw [e3]; simp)
          rw [et] at hx
          have : x = o[0] := by simpa using hx
          exact hc (by rw [← this, e3]; simp)
        | succ p =>
          refine hmin p (by omega) fun y hy => ?_
          have := hp y hy
          rw [et] at this
          rcases List.mem_append.mp this with q | q
          · exact q
          · have : y = o[p + 1] := by simpa using q
            rw [this] at hy
            exact absurd hy hc
    have rm := (memb _).mp (S1 _ inS)
    have rx := (memb x).mp (List.mem_of_getElem? ex)
    obtain ⟨t, t1, t2, t3⟩ := hf p (jb js o[p]) (by unfold rk; rw [List.getElem?_map, eo]; rfl)
    have okm := jb_ok h rm.1 rm.2
    have okx := jb_ok h rx.1 rx.2
    have Tle : (jb js o[p]).2.1 ≤ (jb js x).2.1 := by
      rw [← Tf_jb rm.1 rm.2, ← Tf_jb rx.1 rx.2]
      have srt := byP_sorted js
      have s2 : ((byP js).take (i + 1)).Pairwise fun x y => Tf js x ≤ Tf js y := srt.sublist (List.take_sublist _ _)
      rw [e3] at s2 inS
      rcases List.mem_append.mp inS with q | q
      · exact (List.pairwise_append.mp s2).2.2 _ q x (by simp)
      · have : o[p] = x := by simpa using q
        rw [this]
        exact Int.le_refl _
    have big : ((o.take (p + 1)).map fun y => (jb js y).1 * cl t (jb js y).2.1).sum ≤ t := by
      rw [et, List.map_append, List.sum_append]
      unfold rk loadS at t3
      rw [← List.map_take, List.map_map] at t3
      have c1 := cl_one t1 t2
      have e5 : (([o[p]] : List Int).map fun y => (jb js y).1 * cl t (jb js y).2.1).sum = (jb js o[p]).1 := by
        simp [c1]
      rw [e5]
      have e6 : ((o.take p).map ((fun u => u.1 * cl t u.2.1) ∘ jb js)).sum = ((o.take p).map fun y => (jb js y).1 * cl t (jb js y).2.1).sum := rfl
      rw [e6] at t3
      omega
    have small := sum_subset (fun y => (jb js y).1 * cl t (jb js y).2.1) ((byP js).take (i + 1)) (o.take (p + 1)) (hnb.sublist (List.take_sublist _ _)) hp fun y hy => by
      have ry := (memo y).mp (List.mem_of_mem_take hy)
      have oy := jb_ok h ry.1 ry.2
      obtain ⟨o1, o2, o3, _⟩ := oy
      exact Int.mul_nonneg (by omega) (cl_nonneg (by omega) (by omega))
    rw [e3, List.map_append, List.sum_append] at small
    have c2 : cl t (jb js x).2.1 = 1 := cl_one t1 (by omega)
    have e7 : (([x] : List Int).map fun y => (jb js y).1 * cl t (jb js y).2.1).sum = (jb js x).1 := by simp [c2]
    rw [e7] at small
    rw [← ej]
    refine ⟨t, t1, by omega, ?_⟩
    unfold rk loadS
    rw [← List.map_take, List.map_map]
    have e8 : (((byP js).take i).map ((fun u => u.1 * cl t u.2.1) ∘ jb js)).sum = (((byP js).take i).map fun y => (jb js y).1 * cl t (jb js y).2.1).sum := rfl
    rw [e8]
    omega
end
end Lw

set_option Elab.async false
set_option linter.all false
set_option maxRecDepth 100000
set_option maxHeartbeats 1000000
namespace Lw
open PySem L2 Gv
abbrev dJ : Job → PyData := dP3 PyData.int PyData.int PyData.int
theorem jsd_T (js : List Job) : JsD (dT dJ js) (js.map dJ) js := ⟨.inl rfl, by simp, fun i x hx => by
  rw [List.getElem?_map] at hx
  cases e : js[i]? with
  | none => rw [e] at hx; cases hx
  | some j =>
    rw [e] at hx
    refine ⟨j, rfl, .inl ?_⟩
    rw [← Option.some.inj hx]
    rfl⟩
theorem jsd_L (js : List Job) : JsD (dL (dL PyData.int) (js.map fun j => [j.1, j.2.1, j.2.2])) ((js.map fun j => [j.1, j.2.1, j.2.2]).map (dL PyData.int)) js := ⟨.inr rfl, by simp, fun i x hx => by
  rw [List.getElem?_map, List.getElem?_map] at hx
  cases e : js[i]? with
  | none => rw [e] at hx; cases hx
  | some j =>
    rw [e] at hx
    refine ⟨j, rfl, .inr ?_⟩
    rw [← Option.some.inj hx]
    rfl⟩
theorem refused_none {d : PyData} {ds : List PyData} {js : List Job} {w : Int} (hw : w = 0 ∨ w = 1 ∨ w = 2) (h : JsD d ds js) (hok : AllJ js) (hl : js.length ≤ 5) : f_law_refused (w, d) = .nx "" := by
  obtain ⟨b, hb, _⟩ := never_ok h hok hl
  have h1 := load_ok h hok hl
  have h2 := by_periods_ok h hok hl
  unfold f_law_refused m_law_refused
  rw [lt_eq]
  rcases hw with rfl | rfl | rfl
  · rw [if_pos (show decide ((0 : Int) = 0) = true by decide), h1]
    rfl
  · rw [if_neg (show ¬ decide ((1 : Int) = 0) = true by decide), if_pos (show decide ((1 : Int) = 1) = true by decide), h2]
    rfl
  · rw [if_neg (show ¬ decide ((2 : Int) = 0) = true by decide), if_neg (show ¬ decide ((2 : Int) = 1) = true by decide), hb]
    rfl
theorem refusals_ok {nums : List Int} {js : List Job} (hn : Nn nums) (hok : AllJ js) (hl : js.length ≤ 4) : OutR (f_law_refusals_fit (nums, js)) (fun r => r.1 = true) (fun _ => False) := by
  refine o_fin ?_
  unfold m_law_refusals_fit
  refine o_bindR ((draw_ok hn (show (0 : Int) < ((js.length : Int) + 1) by omega)).imp (fun r1 q => ?_) fun _ q => q)
  obtain ⟨q1, q2, q3⟩ := q
  obtain ⟨a, ha⟩ : ∃ a : Nat, r1.1 = (a : Int) := ⟨r1.1.toNat, by omega⟩
  have hal : a ≤ js.length := by omega
  refine o_bindR (o_eq (rngR_nx (by omega)) ?_)
  refine o_bind ?_
  refine o_for (fun _ _ => True) trivial (fun i s w hw _ => ?_) fun _ _ => o_rt rfl
  have hw3 : w = 0 ∨ w = 1 ∨ w = 2 := by
    have := mem_rangeL.mp (List.mem_of_getElem? hw)
    omega
  refine o_bind ?_
  refine o_for (fun _ _ => True) trivial (fun i s x hx _ => ?_) fun _ _ => ?_
  · have hxw : x ∈ wrongs := List.mem_of_getElem? hx
    rw [ha, cut_to hal, cut_from hal]
    rw [catR_nx (by simp; omega)]
    refine o_bindR (o_eq rfl ?_)
    rw [catR_nx (by simp; omega)]
    refine o_bindR (o_eq rfl ?_)
    have e1 : dT id (List.map dJ (js.take a) ++ [x] ++ List.map dJ (js.drop a)) = .tuple (List.map dJ (js.take a) ++ x :: List.map dJ (js.drop a)) := by
      unfold dT
      rw [List.map_id]
      simp
    have e2 := refused_jobs hw3 (check_bad (A := List.map dJ (js.take a)) (B := List.map dJ (js.drop a)) (x := x) (fun y hy => by
      obtain ⟨j, hj, rfl⟩ := List.mem_map.mp hy
      exact ⟨j, .inl rfl, hok j (List.mem_of_mem_take hj)⟩) hxw (by simp; omega))
    rw [← e1] at e2
    refine o_bindR (o_eq e2 ?_)
    exact o_ite (fun z => absurd z (by decide)) fun _ => trivial
  · have r1e : repR ([((1 : Int), (6 : Int), (0 : Int))] : List Job) 6 = .nx (List.replicate 6 [((1 : Int), (6 : Int), (0 : Int))]).flatten := gd_true rfl
    have r2e : repR ([((1 : Int), (24 : Int), (23 : Int))] : List Job) 5 = .nx (List.replicate 5 [((1 : Int), (24 : Int), (23 : Int))]).flatten := gd_true rfl
    refine o_bind ?_
    rw [r1e]
    refine o_bindR (o_eq rfl ?_)
    refine o_bindR (o_eq (refused_many hw3 (check_many (by simp))) ?_)
    refine o_ite (fun z => absurd z (by decide)) fun _ => ?_
    refine o_bindR (o_eq (refused_jobs hw3 check_seven) ?_)
    refine o_nx ?_
    refine o_ite (fun z => absurd z (by decide)) fun _ => ?_
    refine o_bind ?_
    rw [r2e]
    refine o_bindR (o_eq rfl ?_)
    refine o_bindR (o_eq (refused_none hw3 (jsd_T _) (fun j hj => by
      have : j = (1, 24, 23) := by simpa using hj
      rw [this]
      exact ⟨by decide, by decide, by decide, by decide, by decide, by decide⟩) (by simp)) ?_)
    refine o_ite (fun z => absurd z (by decide)) fun _ => ?_
    refine o_bindR (o_eq (refused_none hw3 (jsd_T js) hok (by omega)) ?_)
    refine o_nx ?_
    exact o_ite (fun z => absurd z (by decide)) fun _ => trivial
end Lw

set_option Elab.async false
set_option linter.all false
set_option maxRecDepth 100000
set_option maxHeartbeats 1000000
namespace Lw
open PySem L2 Gv
theorem jb_idx {js : List Job} {b : Int} (h : 0 ≤ b ∧ b < js.length) : idx js b = .nx (jb js b) := by
  obtain ⟨j, e, q⟩ := jb_get h.1 h.2
  rw [q]
  have eb : b = ((b.toNat : Nat) : Int) := by omega
  rw [eb]
  exact idx_nat e
theorem rk_all {js : List Job} (h : AllJ js) {o : List Int} (ho : ∀ y, y ∈ o → 0 ≤ y ∧ y < js.length) : AllJ (rk js o) := fun j hj => by
  obtain ⟨y, hy, rfl⟩ := List.mem_map.mp hj
  exact jb_ok h (ho y hy).1 (ho y hy).2
theorem bool_iff {a b : Bool} (h : a = true ↔ b = true) : a = b := by
  cases a <;> cases b <;> simp at h ⊢
open Classical in
theorem law_true : ∀ ns : List Int, ns.length ≤ 63 → f_law ns = .nx true := by
  intro ns hns
  obtain ⟨r, e, q⟩ := o_val (m := f_law ns) (N := fun r => r = true) (by
    refine o_fin ?_
    unfold m_law
    obtain ⟨nums, en, hn⟩ := numbers_ok hns
    refine o_bindR (o_eq en ?_)
    refine o_bindR ((draw_ok hn (by omega)).imp (fun r2 q => ?_) fun _ q => q)
    obtain ⟨q1, q2, q3⟩ := q
    refine o_lt ?_
    generalize hdv : decide (r2.1 = (1 : Int)) = dv
    refine o_bind ?_
    refine Out.imp (N := fun s4 : List Int × List Job => Nn s4.1 ∧ AllJ s4.2 ∧ s4.2.length ≤ 4 ∧ (dv = true → 1 ≤ s4.2.length ∧ Dv s4.2)) (T := fun _ => False) (B := fun _ => False) (C := fun _ => False) (E := fun _ => False) ?_ (fun s4 q => ?_) (fun _ z => z.elim) (fun _ z => z.elim) (fun _ z => z.elim) (fun _ z => z.elim)
    · refine o_ite (fun z => ?_) fun z => ?_
      · refine o_bindR ((dividing_ok q3).imp (fun r5 q => ?_) fun _ q => q)
        exact ⟨q.2.2.2.2, q.1, q.2.2.1, fun _ => ⟨q.2.1, q.2.2.2.1⟩⟩
      · refine o_bindR ((any_ok q3).imp (fun r6 q => ?_) fun _ q => q)
        exact ⟨q.2.2, q.1, q.2.1, fun y => by rw [z] at y; cases y⟩
    obtain ⟨h1, h2, h3, h4⟩ := q
    have h5 : s4.2.length ≤ 5 := by omega
    refine o_bindR (o_eq (law_load_ok h2 h5) ?_)
    refine o_bindR (o_eq (load_ok (jsd_T s4.2) h2 h5) ?_)
    refine o_bind ?_
    refine o_ite (fun z => nomatch z) fun _ => ?_
    refine o_ite (fun z => absurd z (by simp)) fun _ => ?_
    refine o_bindR (o_eq rfl ?_)
    refine o_ite (fun z => nomatch z) fun _ => ?_
    refine o_bindR (o_eq rfl ?_)
    refine o_nx ?_
    refine o_ite (fun z => nomatch z) fun _ => ?_
    refine o_bindR (o_eq (by_periods_ok (jsd_T s4.2) h2 h5) ?_)
    refine o_bind ?_
    refine o_ite (fun z => nomatch z) fun _ => ?_
    refine o_bindR (o_eq (law_by_periods_ok h2 h5) ?_)
    refine o_nx ?_
    refine o_ite (fun z => absurd z (by simp)) fun _ => ?_
    refine o_bindR (o_eq (orders_ok h5) ?_)
    refine o_bind ?_
    have rng : ∀ o, o ∈ ords s4.2.length → ∀ y, y ∈ o → 0 ≤ y ∧ y < s4.2.length := fun o ho y hy => mem_rangeL.mp ((ords_perm _ o ho).mem_iff.mp hy)
    have rkl : ∀ o, o ∈ ords s4.2.length → (rk s4.2 o).length ≤ 5 := fun o ho => by
      unfold rk
      rw [List.length_map, ords_len _ o ho]
      exact h5
    refine o_for (fun k (s : Bool) => s = true ↔ ∃ o, o ∈ (ords s4.2.length).take k ∧ Feas (rk s4.2 o)) (by simp) (fun k s o ho hs => ?_) fun s hs => ?_
    · have hom := List.mem_of_getElem? ho
      have ho5 := ords_len _ o hom
      refine o_bindR (o_lcR (jb s4.2) (fun b hb => ?_) (by omega) ?_)
      · exact o_r (o_bindR (o_eq (jb_idx (rng o hom b hb)) rfl))
      · obtain ⟨w, hw, hw2⟩ := well_ok (rk_all h2 (rng o hom)) (rkl o hom)
        obtain ⟨v, hv, hv2⟩ := never_ok (jsd_T (rk s4.2 o)) (rk_all h2 (rng o hom)) (rkl o hom)
        have evw : v = w := bool_iff (hv2.trans hw2.symm)
        refine o_bindR (o_eq hw ?_)
        refine o_lt ?_
        refine o_bindR (o_eq hv ?_)
        refine o_ite (fun z => absurd z (by subst evw; simp [isA])) fun _ => ?_
        refine o_nx ?_
        rw [List.take_succ, ho, Bool.or_eq_true, hs, hw2]
        constructor
        · rintro (⟨o', h, hf⟩ | hf)
          · exact ⟨o', List.mem_append_left _ h, hf⟩
          · exact ⟨o, List.mem_append_right _ (by simp), hf⟩
        · rintro ⟨o', h, hf⟩
          rcases List.mem_append.mp h with h | h
          · exact .inl ⟨o', h, hf⟩
          · have : o' = o := by simpa using h
            rw [this] at hf
            exact .inr hf
    · rw [List.take_length] at hs
      have bpm := perm_ords _ _ (byP_perm s4.2)
      refine o_bindR (o_eq (by_periods_ok (jsd_T s4.2) h2 h5) ?_)
      refine o_bindR (o_lcR (jb s4.2) (fun b hb => ?_) (by have := ords_len _ _ bpm; omega) ?_)
      · exact o_r (o_bindR (o_eq (jb_idx (rng _ bpm b hb)) rfl))
      · obtain ⟨v, hv, hv2⟩ := never_ok (jsd_T (rk s4.2 (byP s4.2))) (rk_all h2 (rng _ bpm)) (rkl _ bpm)
        refine o_bindR (o_eq hv ?_)
        have evs : v = s := bool_iff (by
          rw [hv2, hs]
          exact ⟨fun hf => ⟨_, bpm, hf⟩, fun ⟨o, ho, hf⟩ => exchange h2 (ords_perm _ o ho) hf⟩)
        refine o_ite (fun z => absurd z (by subst evs; simp)) fun _ => ?_
        refine o_bind ?_
        have tail : Out (bindR (lcR (fun (s34 : Unit) (b33 : (Int × Int × Int)) =>
.nx ((), some ([b33.1, b33.2.1, b33.2.2]))) s4.2 () []) fun r35 =>
bindR (f_never_misses ((dL (dL PyData.int)) r35.2)) fun r36 =>
bindR (f_never_misses ((dT (dP3 PyData.int PyData.int PyData.int)) s4.2)) fun r37 =>
if (!decide (r36 = r37)) then (.rt false) else (O.bind (bindR (lcR (fun (s40 : Unit) (b39 : (Int × Int × Int)) =>
.nx ((), some ([b39.1, b39.2.1, b39.2.2]))) s4.2 () []) fun r41 =>
bindR (f_load ((dL (dL PyData.int)) r41.2)) fun r42 =>
if (decide (r42 = due s4.2)) then (bindR (f_law_refusals_fit (s4.1, s4.2)) fun r43 =>
.nx (r43.1, r43.2)) else (.nx (false, s4.1))) fun (j38 : (Bool × (List Int))) =>
.rt j38.1) : O Bool Empty Empty) (fun a => OutR a.elim (fun r => r = true) fun _ => False) (fun r => r = true) (fun _ => True) (fun _ => True) (fun _ => False) := by
          refine o_bindR (o_lcR (fun j : Job => [j.1, j.2.1, j.2.2]) (fun b hb => rfl) (by omega) ?_)
          obtain ⟨v1, hv1, hv12⟩ := never_ok (jsd_L s4.2) h2 h5
          obtain ⟨v2, hv2, hv22⟩ := never_ok (jsd_T s4.2) h2 h5
          refine o_bindR (o_eq hv1 ?_)
          refine o_bindR (o_eq hv2 ?_)
          have e12 : v1 = v2 := bool_iff (hv12.trans hv22.symm)
          refine o_ite (fun z => absurd z (by subst e12; simp)) fun _ => ?_
          refine o_bind (o_bindR (o_lcR (fun j : Job => [j.1, j.2.1, j.2.2]) (fun b hb => rfl) (by omega) ?_))
          refine o_bindR (o_eq (load_ok (jsd_L s4.2) h2 h5) ?_)
          refine o_ite (fun _ => ?_) fun z => absurd z (by simp)
          refine o_bindR ((refusals_ok h1 h2 h3).imp (fun r q => ?_) fun _ q => q)
          exact q
        refine o_ite (fun z => ?_) fun z => ?_
        · obtain ⟨v2, hw2, hw22⟩ := never_ok (jsd_T s4.2) h2 h5
          refine o_bindR (o_eq hw2 ?_)
          obtain ⟨l1, dvj⟩ := h4 z
          have fd := feas_dividing h2 l1 dvj
          have ev : v2 = decide ((due s4.2).1 ≤ (due s4.2).2) := bool_iff (by rw [hw22, fd]; simp)
          refine o_nx ?_
          refine o_ite (fun z => absurd z (by subst ev; simp)) fun _ => ?_
          exact tail
        · exact o_ite (fun z => nomatch z) fun _ => tail)
  rw [e, q]
end Lw

set_option Elab.async false
set_option linter.all false
set_option maxRecDepth 100000
set_option maxHeartbeats 4000000
/-! the defs do what their mirrors tell -/
namespace Lw
open PySem L2 Gv
def top (i : Nat) : Stmt := PySem.Challenge.pw_guardrungs_k78_load_and_dividing_periods.main.body.getD i (.Pass ⟨0, 0, 0, 0⟩)
abbrev st_is_whole : Stmt := top 6
theorem sc_is_whole : FnScope ["value"] ["value"] (defScope st_is_whole) := ⟨rfl, rfl, rfl, by decide +kernel, rfl, by decide +kernel, by decide +kernel⟩
abbrev pre_is_whole (a : PyData) (as : List Addr) : List (Option Tm) := [some (.dat (eD a))]
abbrev post_is_whole (r : Bool) (as : List Addr) : List (Option Tm) := [none]
abbrev ret_is_whole (r : Bool) : Tm := .dat (eB r)
abbrev st_whole_in : Stmt := top 7
theorem sc_whole_in : FnScope ["value", "low", "high"] ["value", "low", "high"] (defScope st_whole_in) := ⟨rfl, rfl, rfl, by decide +kernel, rfl, by decide +kernel, by decide +kernel⟩
abbrev pre_whole_in (a : (PyData × Int × Int)) (as : List Addr) : List (Option Tm) := [some (.dat (eD a.1)), some (.dat (eI a.2.1)), some (.dat (eI a.2.2))]
abbrev post_whole_in (r : Bool) (as : List Addr) : List (Option Tm) := [none, none, none]
abbrev ret_whole_in (r : Bool) : Tm := .dat (eB r)
abbrev st_check_jobs : Stmt := top 12
theorem sc_check_jobs : FnScope ["jobs", "job"] ["jobs"] (defScope st_check_jobs) := ⟨rfl, rfl, rfl, by decide +kernel, rfl, by decide +kernel, by decide +kernel⟩
abbrev pre_check_jobs (a : PyData) (as : List Addr) : List (Option Tm) := [some (.dat (eD a))]
abbrev post_check_jobs (r : Unit) (as : List Addr) : List (Option Tm) := [none]
abbrev ret_check_jobs (r : Unit) : Tm := .dat eN
abbrev st_check_job_place : Stmt := top 13
theorem sc_check_job_place : FnScope ["jobs", "place"] ["jobs", "place"] (defScope st_check_job_place) := ⟨rfl, rfl, rfl, by decide +kernel, rfl, by decide +kernel, by decide +kernel⟩
abbrev pre_check_job_place (a : (PyData × Int)) (as : List Addr) : List (Option Tm) := [some (.dat (eD a.1)), some (.dat (eI a.2))]
abbrev post_check_job_place (r : Unit) (as : List Addr) : List (Option Tm) := [none, none]
abbrev ret_check_job_place (r : Unit) : Tm := .dat eN
abbrev st_rows_of_response : Stmt := top 16
theorem sc_rows_of_response : FnScope ["jobs", "place", "found", "own", "period", "_", "total", "urgent"] ["jobs", "place"] (defScope st_rows_of_response) := ⟨rfl, rfl, rfl, by decide +kernel, rfl, by decide +kernel, by decide +kernel⟩
abbrev pre_rows_of_response (a : (PyData × Int)) (as : List Addr) : List (Option Tm) := [some (.dat (eD a.1)), some (.dat (eI a.2))]
abbrev post_rows_of_response (r : (List Int)) (as : List Addr) : List (Option Tm) := [none, none]
abbrev ret_rows_of_response (r : (List Int)) : Tm := .dat ((eT eI) r)
abbrev st_response : Stmt := top 15
theorem sc_response : FnScope ["jobs", "place", "last"] ["jobs", "place"] (defScope st_response) := ⟨rfl, rfl, rfl, by decide +kernel, rfl, by decide +kernel, by decide +kernel⟩
abbrev pre_response (a : (PyData × Int)) (as : List Addr) : List (Option Tm) := [some (.dat (eD a.1)), some (.dat (eI a.2))]
abbrev post_response (r : (Option Int)) (as : List Addr) : List (Option Tm) := [none, none]
abbrev ret_response (r : (Option Int)) : Tm := .dat ((eO eI) r)
abbrev st_never_misses : Stmt := top 17
theorem sc_never_misses : FnScope ["jobs", "place"] ["jobs"] (defScope st_never_misses) := ⟨rfl, rfl, rfl, by decide +kernel, rfl, by decide +kernel, by decide +kernel⟩
abbrev pre_never_misses (a : PyData) (as : List Addr) : List (Option Tm) := [some (.dat (eD a))]
abbrev post_never_misses (r : Bool) (as : List Addr) : List (Option Tm) := [none]
abbrev ret_never_misses (r : Bool) : Tm := .dat (eB r)
abbrev st_by_periods : Stmt := top 18
theorem sc_by_periods : FnScope ["jobs", "pairs", "place", "job", "pair"] ["jobs"] (defScope st_by_periods) := ⟨rfl, rfl, rfl, by decide +kernel, rfl, by decide +kernel, by decide +kernel⟩
abbrev pre_by_periods (a : PyData) (as : List Addr) : List (Option Tm) := [some (.dat (eD a))]
abbrev post_by_periods (r : (List Int)) (as : List Addr) : List (Option Tm) := [none]
abbrev ret_by_periods (r : (List Int)) : Tm := .dat ((eT eI) r)
abbrev st_load : Stmt := top 19
theorem sc_load : FnScope ["jobs", "above", "below", "rungs", "period", "_", "common"] ["jobs"] (defScope st_load) := ⟨rfl, rfl, rfl, by decide +kernel, rfl, by decide +kernel, by decide +kernel⟩
abbrev pre_load (a : PyData) (as : List Addr) : List (Option Tm) := [some (.dat (eD a))]
abbrev post_load (r : (Int × Int)) (as : List Addr) : List (Option Tm) := [none]
abbrev ret_load (r : (Int × Int)) : Tm := .dat ((eP2 eI eI) r)
abbrev st_law_numbers : Stmt := top 21
theorem sc_law_numbers : FnScope ["script", "numbers", "place", "cell", "turned", "turn", "seed"] ["script"] (defScope st_law_numbers) := ⟨rfl, rfl, rfl, by decide +kernel, rfl, by decide +kernel, by decide +kernel⟩
abbrev pre_law_numbers (a : (List Int)) (as : List Addr) : List (Option Tm) := [some (.dat ((eL eI) a))]
abbrev post_law_numbers (r : (List Int)) (as : List Addr) : List (Option Tm) := [none]
abbrev ret_law_numbers (r : (List Int)) : Tm := .own none (.lst (List.map eI r))
abbrev st_law_draw : Stmt := top 22
theorem sc_law_draw : FnScope ["numbers", "many"] ["numbers", "many"] (defScope st_law_draw) := ⟨rfl, rfl, rfl, by decide +kernel, rfl, by decide +kernel, by decide +kernel⟩
abbrev pre_law_draw (a : ((List Int) × Int)) (as : List Addr) : List (Option Tm) := [some (.own (as[0]?) (.lst (List.map eI a.1))), some (.dat (eI a.2))]
abbrev post_law_draw (r : (Int × (List Int))) (as : List Addr) : List (Option Tm) := [some (.own (as[0]?) (.lst (List.map eI r.2))), none]
abbrev ret_law_draw (r : (Int × (List Int))) : Tm := .dat (eI r.1)
abbrev st_law_int : Stmt := top 23
theorem sc_law_int : FnScope ["value"] ["value"] (defScope st_law_int) := ⟨rfl, rfl, rfl, by decide +kernel, rfl, by decide +kernel, by decide +kernel⟩
abbrev pre_law_int (a : PyData) (as : List Addr) : List (Option Tm) := [some (.dat (eD a))]
abbrev post_law_int (r : Bool) (as : List Addr) : List (Option Tm) := [none]
abbrev ret_law_int (r : Bool) : Tm := .dat (eB r)
abbrev st_law_any_jobs : Stmt := top 24
theorem sc_law_any_jobs : FnScope ["numbers", "jobs", "t", "period"] ["numbers"] (defScope st_law_any_jobs) := ⟨rfl, rfl, rfl, by decide +kernel, rfl, by decide +kernel, by decide +kernel⟩
abbrev pre_law_any_jobs (a : (List Int)) (as : List Addr) : List (Option Tm) := [some (.own (as[0]?) (.lst (List.map eI a)))]
abbrev post_law_any_jobs (r : ((List (Int × Int × Int)) × (List Int))) (as : List Addr) : List (Option Tm) := [some (.own (as[0]?) (.lst (List.map eI r.2)))]
abbrev ret_law_any_jobs (r : ((List (Int × Int × Int)) × (List Int))) : Tm := .dat ((eL (eP3 eI eI eI)) r.1)
abbrev st_law_dividing : Stmt := top 25
theorem sc_law_dividing : FnScope ["numbers", "jobs", "period", "t", "left", "job", "rungs", "longer"] ["numbers"] (defScope st_law_dividing) := ⟨rfl, rfl, rfl, by decide +kernel, rfl, by decide +kernel, by decide +kernel⟩
abbrev pre_law_dividing (a : (List Int)) (as : List Addr) : List (Option Tm) := [some (.own (as[0]?) (.lst (List.map eI a)))]
abbrev post_law_dividing (r : ((List (Int × Int × Int)) × (List Int))) (as : List Addr) : List (Option Tm) := [some (.own (as[0]?) (.lst (List.map eI r.2)))]
abbrev ret_law_dividing (r : ((List (Int × Int × Int)) × (List Int))) : Tm := .dat ((eL (eP3 eI eI eI)) r.1)
abbrev st_law_lowest : Stmt := top 26
theorem sc_law_lowest : FnScope ["n", "d", "a", "b", "turn", "rest"] ["n", "d"] (defScope st_law_lowest) := ⟨rfl, rfl, rfl, by decide +kernel, rfl, by decide +kernel, by decide +kernel⟩
abbrev pre_law_lowest (a : (Int × Int)) (as : List Addr) : List (Option Tm) := [some (.dat (eI a.1)), some (.dat (eI a.2))]
abbrev post_law_lowest (r : (Int × Int)) (as : List Addr) : List (Option Tm) := [none, none]
abbrev ret_law_lowest (r : (Int × Int)) : Tm := .dat ((eP2 eI eI) r)
abbrev st_law_load : Stmt := top 27
theorem sc_law_load : FnScope ["jobs", "n", "d", "job"] ["jobs"] (defScope st_law_load) := ⟨rfl, rfl, rfl, by decide +kernel, rfl, by decide +kernel, by decide +kernel⟩
abbrev pre_law_load (a : (List (Int × Int × Int))) (as : List Addr) : List (Option Tm) := [some (.dat ((eT (eP3 eI eI eI)) a))]
abbrev post_law_load (r : (Int × Int)) (as : List Addr) : List (Option Tm) := [none]
abbrev ret_law_load (r : (Int × Int)) : Tm := .dat ((eP2 eI eI) r)
abbrev st_law_well : Stmt := top 28
theorem sc_law_well : FnScope ["jobs", "place", "last", "still", "turn", "total", "k"] ["jobs"] (defScope st_law_well) := ⟨rfl, rfl, rfl, by decide +kernel, rfl, by decide +kernel, by decide +kernel⟩
abbrev pre_law_well (a : (List (Int × Int × Int))) (as : List Addr) : List (Option Tm) := [some (.dat ((eT (eP3 eI eI eI)) a))]
abbrev post_law_well (r : Bool) (as : List Addr) : List (Option Tm) := [none]
abbrev ret_law_well (r : Bool) : Tm := .dat (eB r)
abbrev st_law_orders : Stmt := top 29
theorem sc_law_orders : FnScope ["many", "orders", "k", "longer", "order", "at"] ["many"] (defScope st_law_orders) := ⟨rfl, rfl, rfl, by decide +kernel, rfl, by decide +kernel, by decide +kernel⟩
abbrev pre_law_orders (a : Int) (as : List Addr) : List (Option Tm) := [some (.dat (eI a))]
abbrev post_law_orders (r : (List (List Int))) (as : List Addr) : List (Option Tm) := [none]
abbrev ret_law_orders (r : (List (List Int))) : Tm := .dat ((eL (eT eI)) r)
abbrev st_law_by_periods : Stmt := top 30
theorem sc_law_by_periods : FnScope ["jobs", "order", "period", "place"] ["jobs"] (defScope st_law_by_periods) := ⟨rfl, rfl, rfl, by decide +kernel, rfl, by decide +kernel, by decide +kernel⟩
abbrev pre_law_by_periods (a : (List (Int × Int × Int))) (as : List Addr) : List (Option Tm) := [some (.dat ((eT (eP3 eI eI eI)) a))]
abbrev post_law_by_periods (r : (List Int)) (as : List Addr) : List (Option Tm) := [none]
abbrev ret_law_by_periods (r : (List Int)) : Tm := .dat ((eT eI) r)
abbrev st_law_refused : Stmt := top 31
theorem sc_law_refused : FnScope ["word", "jobs", "told", "raised"] ["word", "jobs"] (defScope st_law_refused) := ⟨rfl, rfl, rfl, by decide +kernel, rfl, by decide +kernel, by decide +kernel⟩
abbrev pre_law_refused (a : (Int × PyData)) (as : List Addr) : List (Option Tm) := [some (.dat (eI a.1)), some (.dat (eD a.2))]
abbrev post_law_refused (r : Str) (as : List Addr) : List (Option Tm) := [none, none]
abbrev ret_law_refused (r : Str) : Tm := .dat (eS r)
abbrev st_law_refusals_fit : Stmt := top 32
theorem sc_law_refusals_fit : FnScope ["numbers", "jobs", "at", "word", "wrong"] ["numbers", "jobs"] (defScope st_law_refusals_fit) := ⟨rfl, rfl, rfl, by decide +kernel, rfl, by decide +kernel, by decide +kernel⟩
abbrev pre_law_refusals_fit (a : ((List Int) × (List (Int × Int × Int)))) (as : List Addr) : List (Option Tm) := [some (.own (as[0]?) (.lst (List.map eI a.1))), some (.dat ((eT (eP3 eI eI eI)) a.2))]
abbrev post_law_refusals_fit (r : (Bool × (List Int))) (as : List Addr) : List (Option Tm) := [some (.own (as[0]?) (.lst (List.map eI r.2))), none]
abbrev ret_law_refusals_fit (r : (Bool × (List Int))) : Tm := .dat (eB r.1)
abbrev st_law : Stmt := top 33
theorem sc_law : FnScope ["script", "numbers", "dividing", "due", "told", "some", "order", "jobs", "ranked", "well", "place", "job"] ["script"] (defScope st_law) := ⟨rfl, rfl, rfl, by decide +kernel, rfl, by decide +kernel, by decide +kernel⟩
abbrev pre_law (a : (List Int)) (as : List Addr) : List (Option Tm) := [some (.dat ((eL eI) a))]
abbrev post_law (r : Bool) (as : List Addr) : List (Option Tm) := [none]
abbrev ret_law (r : Bool) : Tm := .dat (eB r)
abbrev sti_BadNumber : Stmt := inClass (top 3) 0
theorem sci_BadNumber : FnScope ["self", "word"] ["self", "word"] (defScope sti_BadNumber) := ⟨rfl, rfl, rfl, by decide +kernel, rfl, by decide +kernel, by decide +kernel⟩
abbrev sti_TooMany : Stmt := inClass (top 4) 0
theorem sci_TooMany : FnScope ["self", "limit"] ["self", "limit"] (defScope sti_TooMany) := ⟨rfl, rfl, rfl, by decide +kernel, rfl, by decide +kernel, by decide +kernel⟩
structure Zs where
  f_is_whole : Addr
  d_is_whole : FuncData
  f_whole_in : Addr
  d_whole_in : FuncData
  f_check_jobs : Addr
  d_check_jobs : FuncData
  f_check_job_place : Addr
  d_check_job_place : FuncData
  f_rows_of_response : Addr
  d_rows_of_response : FuncData
  f_response : Addr
  d_response : FuncData
  f_never_misses : Addr
  d_never_misses : FuncData
  f_by_periods : Addr
  d_by_periods : FuncData
  f_load : Addr
  d_load : FuncData
  f_law_numbers : Addr
  d_law_numbers : FuncData
  f_law_draw : Addr
  d_law_draw : FuncData
  f_law_int : Addr
  d_law_int : FuncData
  f_law_any_jobs : Addr
  d_law_any_jobs : FuncData
  f_law_dividing : Addr
  d_law_dividing : FuncData
  f_law_lowest : Addr
  d_law_lowest : FuncData
  f_law_load : Addr
  d_law_load : FuncData
  f_law_well : Addr
  d_law_well : FuncData
  f_law_orders : Addr
  d_law_orders : FuncData
  f_law_by_periods : Addr
  d_law_by_periods : FuncData
  f_law_refused : Addr
  d_law_refused : FuncData
  f_law_refusals_fit : Addr
  d_law_refusals_fit : FuncData
  f_law : Addr
  d_law : FuncData
  c_BadNumber : Addr
  i_BadNumber : Addr
  j_BadNumber : FuncData
  c_TooMany : Addr
  i_TooMany : Addr
  j_TooMany : FuncData
  ec : Str → Addr
structure Txt (K : PySem.W.Frag) (mg : Str → Option Value) (Z : Zs) : Prop where
  z_all : mg "all" = none
  z_bool : mg "bool" = none
  z_enumerate : mg "enumerate" = none
  z_int : mg "int" = none
  z_isinstance : mg "isinstance" = none
  z_len : mg "len" = none
  z_list : mg "list" = none
  z_max : mg "max" = none
  z_min : mg "min" = none
  z_range : mg "range" = none
  z_sorted : mg "sorted" = none
  z_str : mg "str" = none
  z_sum : mg "sum" = none
  z_tuple : mg "tuple" = none
  k_LONGEST_JOB : ∃ u, mg "LONGEST_JOB" = some u ∧ RelV (.int 24) u
  k_MOST_JOBS : ∃ u, mg "MOST_JOBS" = some u ∧ RelV (.int 5) u
  k_MOST_RUNGS : ∃ u, mg "MOST_RUNGS" = some u ∧ RelV (.int 12) u
  i_gcd : mg "gcd" = some (.builtin "math.gcd")
  d_is_whole : Df K mg "_is_whole" st_is_whole Z.f_is_whole Z.d_is_whole ["value"]
  d_whole_in : Df K mg "_whole_in" st_whole_in Z.f_whole_in Z.d_whole_in ["value", "low", "high"]
  d_check_jobs : Df K mg "_check_jobs" st_check_jobs Z.f_check_jobs Z.d_check_jobs ["jobs"]
  d_check_job_place : Df K mg "_check_job_place" st_check_job_place Z.f_check_job_place Z.d_check_job_place ["jobs", "place"]
  d_rows_of_response : Df K mg "rows_of_response" st_rows_of_response Z.f_rows_of_response Z.d_rows_of_response ["jobs", "place"]
  d_response : Df K mg "response" st_response Z.f_response Z.d_response ["jobs", "place"]
  d_never_misses : Df K mg "never_misses" st_never_misses Z.f_never_misses Z.d_never_misses ["jobs"]
  d_by_periods : Df K mg "by_periods" st_by_periods Z.f_by_periods Z.d_by_periods ["jobs"]
  d_load : Df K mg "load" st_load Z.f_load Z.d_load ["jobs"]
  d_law_numbers : Df K mg "_law_numbers" st_law_numbers Z.f_law_numbers Z.d_law_numbers ["script"]
  d_law_draw : Df K mg "_law_draw" st_law_draw Z.f_law_draw Z.d_law_draw ["numbers", "many"]
  d_law_int : Df K mg "_law_int" st_law_int Z.f_law_int Z.d_law_int ["value"]
  d_law_any_jobs : Df K mg "_law_any_jobs" st_law_any_jobs Z.f_law_any_jobs Z.d_law_any_jobs ["numbers"]
  d_law_dividing : Df K mg "_law_dividing" st_law_dividing Z.f_law_dividing Z.d_law_dividing ["numbers"]
  d_law_lowest : Df K mg "_law_lowest" st_law_lowest Z.f_law_lowest Z.d_law_lowest ["n", "d"]
  d_law_load : Df K mg "_law_load" st_law_load Z.f_law_load Z.d_law_load ["jobs"]
  d_law_well : Df K mg "_law_well" st_law_well Z.f_law_well Z.d_law_well ["jobs"]
  d_law_orders : Df K mg "_law_orders" st_law_orders Z.f_law_orders Z.d_law_orders ["many"]
  d_law_by_periods : Df K mg "_law_by_periods" st_law_by_periods Z.f_law_by_periods Z.d_law_by_periods ["jobs"]
  d_law_refused : Df K mg "_law_refused" st_law_refused Z.f_law_refused Z.d_law_refused ["word", "jobs"]
  d_law_refusals_fit : Df K mg "_law_refusals_fit" st_law_refusals_fit Z.f_law_refusals_fit Z.d_law_refusals_fit ["numbers", "jobs"]
  d_law : Df K mg "law" st_law Z.f_law Z.d_law ["script"]
  x_BadNumber : Ex1 K mg "BadNumber" "BadNumber.__init__" ["word"] sti_BadNumber Z.c_BadNumber Z.i_BadNumber Z.j_BadNumber
  ec_BadNumber : Z.ec "BadNumber" = Z.c_BadNumber
  x_TooMany : Ex1 K mg "TooMany" "TooMany.__init__" ["limit"] sti_TooMany Z.c_TooMany Z.i_TooMany Z.j_TooMany
  ec_TooMany : Z.ec "TooMany" = Z.c_TooMany
  sub_BadNumber : ∀ nm r, sub_BadNumber nm = some r → PySem.W.exmOne K (.ref (Z.ec nm)) (.ref Z.c_BadNumber) = some r
  sub_TooMany : ∀ nm r, sub_TooMany nm = some r → PySem.W.exmOne K (.ref (Z.ec nm)) (.ref Z.c_TooMany) = some r
section
variable {P : Program} {w : World} {K : PySem.W.Frag} {mg : Str → Option Value} {base : Heap} {Z : Zs}
theorem ini_BadNumber (T : Txt K mg Z) : FnOk P w K mg base (L2.CX P w) 1 Z.i_BadNumber Z.j_BadNumber ["self", "word"] (spIni1 K "word") :=
  T.x_BadNumber.F.okX sci_BadNumber (fun vs H Q E h => by obtain ⟨a, C, y, e, _⟩ := h; rw [e]; rfl) fun cdv A outer s H vs Q E hr h => ⟨_, pss_cons (ps_ost (pv 0) (pv 1)) pss_nil, ini1_ok rfl (fun a y e => by subst e; exact ⟨rfl, rfl⟩) h⟩
theorem ini_TooMany (T : Txt K mg Z) : FnOk P w K mg base (L2.CX P w) 1 Z.i_TooMany Z.j_TooMany ["self", "limit"] (spIni1 K "limit") :=
  T.x_TooMany.F.okX sci_TooMany (fun vs H Q E h => by obtain ⟨a, C, y, e, _⟩ := h; rw [e]; rfl) fun cdv A outer s H vs Q E hr h => ⟨_, pss_cons (ps_ost (pv 0) (pv 1)) pss_nil, ini1_ok rfl (fun a y e => by subst e; exact ⟨rfl, rfl⟩) h⟩
theorem ok_is_whole (T : Txt K mg Z) : FnOk P w K mg base (L2.CX P w) 1 Z.f_is_whole Z.d_is_whole ["value"] (Spec K Z.ec 1 pre_is_whole f_is_whole post_is_whole ret_is_whole) := by
  refine fn_ok T.d_is_whole.F sc_is_whole rfl m_is_whole fun cdv A outer s H E hr => ?_
  refine ⟨_, (pss_cons (ps_ret (pe_and (pe_callB (r := rIsi K) call_isi (by rfl) T.z_isinstance (by decide +kernel) (pa_cons (pv 0) (pa_cons (pe_bltn (v := .ty "int") (u := .type "int") (by rfl) T.z_int (by decide +kernel) rfl) pa_nil))) (pe_one (pe_not (pe_callB (r := rIsi K) call_isi (by rfl) T.z_isinstance (by decide +kernel) (pa_cons (pv 0) (pa_cons (pe_bltn (v := .ty "bool") (u := .type "bool") (by rfl) T.z_bool (by decide +kernel) rfl) pa_nil)))))))
  pss_nil), ?_⟩
  intro a as _
  change BJ K _ [some (.dat (eD a))] _ _ _ _ _
  refine fun g σ H D hA hm => x_ret ?_
  refine (ev_andV (ev_isi (d := a) .int (ev_var rfl) dpt_d) (ev_notV (ev_isi (d := a) .bool (ev_var rfl) dpt_d))) _ _ _ _ _ hA fun v H hA => ?_
  exact hm v H _ (hA.weak1 (.d .nil) fun j z => nomatch z)
theorem ok_whole_in (T : Txt K mg Z) : FnOk P w K mg base (L2.CX P w) 2 Z.f_whole_in Z.d_whole_in ["value", "low", "high"] (Spec K Z.ec 3 pre_whole_in f_whole_in post_whole_in ret_whole_in) := by
  refine fn_ok T.d_whole_in.F sc_whole_in rfl m_whole_in fun cdv A outer s H E hr => ?_
  refine ⟨_, (pss_cons (ps_ret (pe_and (pe_callS (ok_is_whole T) (hr.mono (by decide)) (by rfl) T.d_is_whole.g T.d_is_whole.F.kp T.d_is_whole.b (fun σ => passAt (takes_of rfl rfl rfl rfl) σ) (pa_cons (pv 0) pa_nil)) (pe_one (pe_chain op_le op_le (pv 1) (pv 0) (pv 2)))))
  pss_nil), ?_⟩
  intro a as _
  change BJ K _ [some (.dat (eD a.1)), some (.dat (eI a.2.1)), some (.dat (eI a.2.2))] _ _ _ _ _
  refine fun g σ H D hA hm => x_ret ?_
  refine f_joinV (fun (s : Bool) => [some (.dat (eD a.1)), some (.dat (eI a.2.1)), some (.dat (eI a.2.2))]) (fun s => .dat (eB s)) hA hm (fun hm => ?_) (fun j1 v H hA hm => ?_)
  ·
    refine x_andV ?_
    refine x_call1 ?_
    refine (ev_var rfl) _ _ _ _ _ hA fun v H hA => ?_
    refine f_call [.d (eD a.1)] a.1 (fun r => []) hA rfl rfl True.intro (fun as h => match as, h with | [], _ => rfl) (fun _ => rfl) (fun r as h => match as, h with | [], _ => rfl) (fun r j z => nomatch z) .nil (hm.bindR.imp (fun r2 hm v H hA => ?_) fun _ q => q)
    refine f_tst (P := fun c H1 => _) hA fun hA => ?_
    refine f_pick hm (fun hm => ?_) (fun hm => ?_)
    ·
      refine x_chain ?_
      refine (ev_var rfl) _ _ _ _ _ hA fun v H hA => ?_
      refine (ev_var rfl) _ _ _ _ _ hA fun v H hA => ?_
      refine f_int hA hm fun t3 hA hm => ?_
      refine f_chain (ev_var rfl) hA fun v H hA => ?_
      exact hm v H hA
    ·
      exact hm _ H (hA.scal fun _ => rfl)
  ·
    replace hA : At K g [some (.dat (eD a.1)), some (.dat (eI a.2.1)), some (.dat (eI a.2.2))] _ _ _ := hA
    exact hm v H _ (hA.weak1 (.d (.d (.d .nil))) fun j z => nomatch z)
theorem ok_check_jobs (T : Txt K mg Z) : FnOk P w K mg base (L2.CX P w) 3 Z.f_check_jobs Z.d_check_jobs ["jobs"] (Spec K Z.ec 1 pre_check_jobs f_check_jobs post_check_jobs ret_check_jobs) := by
  refine fn_okN T.d_check_jobs.F sc_check_jobs rfl m_check_jobs (fun _ => rfl) fun cdv A outer s H E hr => ?_
  refine ⟨_, (pss_cons (ps_if (pt_not (pt_val (pe_callB (r := rIsiT K) call_isiT (by rfl) T.z_isinstance (by decide +kernel) (pa_cons (pv 0) (pa_cons (pe_tup (pa_cons (pe_bltn (v := .ty "list") (u := .type "list") (by rfl) T.z_list (by decide +kernel) rfl) (pa_cons (pe_bltn (v := .ty "tuple") (u := .type "tuple") (by rfl) T.z_tuple (by decide +kernel) rfl) pa_nil))) pa_nil))))) (pss_cons (ps_raise rfl (takes_of rfl rfl rfl rfl) (pmk_oex T.x_BadNumber.oex T.x_BadNumber.iC T.x_BadNumber.tI (ini_BadNumber T) (hr.mono (by decide)) T.x_BadNumber.b .nil passL (by rfl) T.x_BadNumber.g (pa_cons pe_str pa_nil)))
  pss_nil) pss_nil)
  (pss_cons (ps_if (pt_cmpR op_gt (pe_callB (r := rLen K) c_len (by rfl) T.z_len (by decide +kernel) (pa_cons (pv 0) pa_nil)) (pe_gk (by rfl) T.k_MOST_JOBS) (nomark _)) (pss_cons (ps_raise rfl (takes_of rfl rfl rfl rfl) (pmk_oex T.x_TooMany.oex T.x_TooMany.iC T.x_TooMany.tI (ini_TooMany T) (hr.mono (by decide)) T.x_TooMany.b .nil passL (by rfl) T.x_TooMany.g (pa_cons (pe_gk (by rfl) T.k_MOST_JOBS) pa_nil)))
  pss_nil) pss_nil)
  (pss_cons (ps_for (passes_of rfl) rfl (pi_seqV (pv 0)) (pg_name (i := 1) sc_check_jobs.nd rfl (Or.inl rfl)) (pss_cons (ps_if (pw_or (pt_not (pt_val (pe_callB (r := rIsiT K) call_isiT (by rfl) T.z_isinstance (by decide +kernel) (pa_cons (pv 1) (pa_cons (pe_tup (pa_cons (pe_bltn (v := .ty "list") (u := .type "list") (by rfl) T.z_list (by decide +kernel) rfl) (pa_cons (pe_bltn (v := .ty "tuple") (u := .type "tuple") (by rfl) T.z_tuple (by decide +kernel) rfl) pa_nil))) pa_nil))))) (pw_or (pt_cmpR op_ne (pe_callB (r := rLen K) c_len (by rfl) T.z_len (by decide +kernel) (pa_cons (pv 1) pa_nil)) pe_int (nomark _)) (pw_or1 (pt_not (pt_val (pe_callS (ok_whole_in T) (hr.mono (by decide)) (by rfl) T.d_whole_in.g T.d_whole_in.F.kp T.d_whole_in.b (fun σ => passAt (takes_of rfl rfl rfl rfl) σ) (pa_cons (pe_ix (r := rIxQ K) ix_q (pv 1) pe_int (fun _ _ => rfl)) (pa_cons pe_int (pa_cons (pe_gk (by rfl) T.k_MOST_RUNGS) pa_nil))))))))).pt (pss_cons (ps_raise rfl (takes_of rfl rfl rfl rfl) (pmk_oex T.x_BadNumber.oex T.x_BadNumber.iC T.x_BadNumber.tI (ini_BadNumber T) (hr.mono (by decide)) T.x_BadNumber.b .nil passL (by rfl) T.x_BadNumber.g (pa_cons pe_str pa_nil)))
  pss_nil) pss_nil)
  (pss_cons (ps_if (pw_or (pt_not (pt_val (pe_callS (ok_whole_in T) (hr.mono (by decide)) (by rfl) T.d_whole_in.g T.d_whole_in.F.kp T.d_whole_in.b (fun σ => passAt (takes_of rfl rfl rfl rfl) σ) (pa_cons (pe_ix (r := rIxQ K) ix_q (pv 1) pe_int (fun _ _ => rfl)) (pa_cons pe_int (pa_cons (pe_gk (by rfl) T.k_LONGEST_JOB) pa_nil)))))) (pw_or1 (pt_not (pt_val (pe_callS (ok_whole_in T) (hr.mono (by decide)) (by rfl) T.d_whole_in.g T.d_whole_in.F.kp T.d_whole_in.b (fun σ => passAt (takes_of rfl rfl rfl rfl) σ) (pa_cons (pe_ix (r := rIxQ K) ix_q (pv 1) pe_int (fun _ _ => rfl)) (pa_cons pe_int (pa_cons (pe_op op_sub (pe_ix (r := rIxQ K) ix_q (pv 1) pe_int (fun _ _ => rfl)) pe_int) pa_nil)))))))).pt (pss_cons (ps_raise rfl (takes_of rfl rfl rfl rfl) (pmk_oex T.x_BadNumber.oex T.x_BadNumber.iC T.x_BadNumber.tI (ini_BadNumber T) (hr.mono (by decide)) T.x_BadNumber.b .nil passL (by rfl) T.x_BadNumber.g (pa_cons pe_str pa_nil)))
  pss_nil) pss_nil)
  pss_nil)))
  pss_nil))), ?_⟩
  intro a as _
  change BJ K _ [some (.dat (eD a)), none] _ _ _ _ _
  refine bj_ifL (evb_not (evb_B (ev_isiT (d := a) .list .tuple (ev_var rfl) dpt_d))) ?_ ?_
  ·
    refine bj_assoc ?_
    exact bj_raise1 (cn := "BadNumber") (dv := (PyData.str ("jobs" : Str))) T.ec_BadNumber T.x_BadNumber.oex (T.x_BadNumber.no _ (by decide)) rfl .nil (ev_box bx_s ev_str)
  ·
    refine bj_pass ?_
    refine fun g σ H D hA hm => x_ifS ?_
    refine x_test ?_
    refine x_op ?_
    refine x_cb1 ?_
    refine (ev_var rfl) _ _ _ _ _ hA fun v H hA => ?_
    refine f_o1m o1_lenD hA hm fun t1 v H hA hm => ?_
    refine ev_int _ _ _ _ _ hA fun v H hA => ?_
    refine o2_c0 _ _ _ _ _ _ _ hA fun v H hA => ?_
    refine f_tst (P := fun c H1 => _) hA fun hA => ?_
    refine f_ifS hm (fun hm => ?_) (fun hm => ?_)
    ·
      refine bj_go hA hm ?_
      change BJ K _ [some (.dat (eD a)), none] _ _ _ _ _
      refine bj_assoc ?_
      exact bj_raise1 (cn := "TooMany") (dv := (PyData.int (5 : Int))) T.ec_TooMany T.x_TooMany.oex (T.x_TooMany.no _ (by decide)) rfl .nil (ev_box bx_i ev_int)
    ·
      refine bj_go hA hm ?_
      change BJ K _ [some (.dat (eD a)), none] _ _ _ _ _
      refine bj_pass ?_
      refine fun g σ H D hA hm => ?_
      refine x_forD ?_
      refine (ev_var rfl) _ _ _ _ _ hA fun v H hA => ?_
      refine wk_seq hA hm fun l2 hm => f_for (e := eD) (fun (s3 : Unit) => [none, none]) (s0 := ()) (.d (.d .nil)) hm (hb_of (e := eD) (js := [1]) (ps := fun b4 => [eD b4]) (fun b => tj_name) (hjl (n := 2) (fun s => rfl) (by decide)) (fun s3 b4 => ?_)) (fun s3 => ?_)
      ·
        change BJ K _ [none, some (.dat (eD b4))] _ _ _ _ _
        refine fun g σ H D hA hm => x_ifS ?_
        refine f_joinT (fun (s : Bool) => [none, some (.dat (eD b4))]) (fun s => s) hA hm (fun hm => ?_) (fun j5 H hA hm => ?_)
        ·
          refine x_orT ?_
          refine (evb_not (evb_B (ev_isiT (d := b4) .list .tuple (ev_var rfl) dpt_d))) _ _ _ _ _ hA fun H hA => ?_
          refine f_pick hm (fun hm => ?_) (fun hm => ?_)
          ·
            exact hm H hA
          ·
            refine x_orT ?_
            refine x_test ?_
            refine x_op ?_
            refine x_cb1 ?_
            refine (ev_var rfl) _ _ _ _ _ hA fun v H hA => ?_
            refine f_o1m o1_lenD hA hm fun t6 v H hA hm => ?_
            refine ev_int _ _ _ _ _ hA fun v H hA => ?_
            refine o2_neI _ _ _ _ _ _ _ hA fun v H hA => ?_
            refine f_tst (P := fun c H1 => _) hA fun hA => ?_
            refine f_pick hm (fun hm => ?_) (fun hm => ?_)
            ·
              exact hm H hA
            ·
              refine x_not ?_
              refine x_B ?_
              refine x_call3 ?_
              refine x_op ?_
              refine (ev_var rfl) _ _ _ _ _ hA fun v H hA => ?_
              refine ev_int _ _ _ _ _ hA fun v H hA => ?_
              refine f_o2m o2_atD hA hm fun t7 v H hA hm => ?_
              refine ev_int _ _ _ _ _ hA fun v H hA => ?_
              refine ev_int _ _ _ _ _ hA fun v H hA => ?_
              refine f_call [.d (eD t7), .d (eI (1 : Int)), .d (eI (12 : Int))] (t7, (1 : Int), (12 : Int)) (fun r => []) hA rfl rfl True.intro (fun as h => match as, h with | [], _ => rfl) (fun _ => rfl) (fun r as h => match as, h with | [], _ => rfl) (fun r j z => nomatch z) .nil (hm.bindR.imp (fun r8 hm v H hA => ?_) fun _ q => q)
              refine f_tst (P := fun c H1 => _) hA fun hA => ?_
              exact hm H hA
        ·
          replace hA : At K g [none, some (.dat (eD b4))] _ _ _ := hA
          refine f_ifS hm (fun hm => ?_) (fun hm => ?_)
          ·
            refine bj_go hA hm ?_
            change BJ K _ [none, some (.dat (eD b4))] _ _ _ _ _
            refine bj_assoc ?_
            exact bj_raise1 (cn := "BadNumber") (dv := (PyData.str ("jobs" : Str))) T.ec_BadNumber T.x_BadNumber.oex (T.x_BadNumber.no _ (by decide)) rfl .nil (ev_box bx_s ev_str)
          ·
            refine bj_go hA hm ?_
            change BJ K _ [none, some (.dat (eD b4))] _ _ _ _ _
            refine bj_pass ?_
            refine fun g σ H D hA hm => x_ifS ?_
            refine f_joinT (fun (s : Bool) => [none, some (.dat (eD b4))]) (fun s => s) hA hm (fun hm => ?_) (fun j9 H hA hm => ?_)
            ·
              refine x_orT ?_
              refine x_not ?_
              refine x_B ?_
              refine x_call3 ?_
              refine x_op ?_
              refine (ev_var rfl) _ _ _ _ _ hA fun v H hA => ?_
              refine ev_int _ _ _ _ _ hA fun v H hA => ?_
              refine f_o2m o2_atD hA hm fun t10 v H hA hm => ?_
              refine ev_int _ _ _ _ _ hA fun v H hA => ?_
              refine ev_int _ _ _ _ _ hA fun v H hA => ?_
              refine f_call [.d (eD t10), .d (eI (1 : Int)), .d (eI (24 : Int))] (t10, (1 : Int), (24 : Int)) (fun r => []) hA rfl rfl True.intro (fun as h => match as, h with | [], _ => rfl) (fun _ => rfl) (fun r as h => match as, h with | [], _ => rfl) (fun r j z => nomatch z) .nil (hm.bindR.imp (fun r11 hm v H hA => ?_) fun _ q => q)
              refine f_tst (P := fun c H1 => _) hA fun hA => ?_
              refine f_pick hm (fun hm => ?_) (fun hm => ?_)
              ·
                exact hm H hA
              ·
                refine x_not ?_
                refine x_B ?_
                refine x_call3 ?_
                refine x_op ?_
                refine (ev_var rfl) _ _ _ _ _ hA fun v H hA => ?_
                refine ev_int _ _ _ _ _ hA fun v H hA => ?_
                refine f_o2m o2_atD hA hm fun t12 v H hA hm => ?_
                refine ev_int _ _ _ _ _ hA fun v H hA => ?_
                refine x_op ?_
                refine x_op ?_
                refine (ev_var rfl) _ _ _ _ _ hA fun v H hA => ?_
                refine ev_int _ _ _ _ _ hA fun v H hA => ?_
                refine f_o2m o2_atD hA hm fun t13 v H hA hm => ?_
                refine ev_int _ _ _ _ _ hA fun v H hA => ?_
                refine f_int1 hA hm fun t14 hA hm => ?_
                refine o2_i0 _ _ _ _ _ _ _ hA fun v H hA => ?_
                refine f_call [.d (eD t12), .d (eI (0 : Int)), .d (eI (t14 - (1 : Int)))] (t12, (0 : Int), (t14 - (1 : Int))) (fun r => []) hA rfl rfl True.intro (fun as h => match as, h with | [], _ => rfl) (fun _ => rfl) (fun r as h => match as, h with | [], _ => rfl) (fun r j z => nomatch z) .nil (hm.bindR.imp (fun r15 hm v H hA => ?_) fun _ q => q)
                refine f_tst (P := fun c H1 => _) hA fun hA => ?_
                exact hm H hA
            ·
              replace hA : At K g [none, some (.dat (eD b4))] _ _ _ := hA
              refine f_ifS hm (fun hm => ?_) (fun hm => ?_)
              ·
                refine bj_go hA hm ?_
                change BJ K _ [none, some (.dat (eD b4))] _ _ _ _ _
                refine bj_assoc ?_
                exact bj_raise1 (cn := "BadNumber") (dv := (PyData.str ("jobs" : Str))) T.ec_BadNumber T.x_BadNumber.oex (T.x_BadNumber.no _ (by decide)) rfl .nil (ev_box bx_s ev_str)
              ·
                refine bj_go hA hm ?_
                change BJ K _ [none, some (.dat (eD b4))] _ _ _ _ _
                refine bj_pass ?_
                exact bj_nx (a := ()) (.d (.d .nil))
      ·
        change BJ K _ [none, none] _ _ _ _ _
        exact bj_nx (a := ()) (.d .nil)
theorem ok_check_job_place (T : Txt K mg Z) : FnOk P w K mg base (L2.CX P w) 3 Z.f_check_job_place Z.d_check_job_place ["jobs", "place"] (Spec K Z.ec 2 pre_check_job_place f_check_job_place post_check_job_place ret_check_job_place) := by
  refine fn_okN T.d_check_job_place.F sc_check_job_place rfl m_check_job_place (fun _ => rfl) fun cdv A outer s H E hr => ?_
  refine ⟨_, (pss_cons (ps_if (pt_not (pt_val (pe_callS (ok_whole_in T) (hr.mono (by decide)) (by rfl) T.d_whole_in.g T.d_whole_in.F.kp T.d_whole_in.b (fun σ => passAt (takes_of rfl rfl rfl rfl) σ) (pa_cons (pv 1) (pa_cons pe_int (pa_cons (pe_op op_sub (pe_callB (r := rLen K) c_len (by rfl) T.z_len (by decide +kernel) (pa_cons (pv 0) pa_nil)) pe_int) pa_nil)))))) (pss_cons (ps_raise rfl (takes_of rfl rfl rfl rfl) (pmk_oex T.x_BadNumber.oex T.x_BadNumber.iC T.x_BadNumber.tI (ini_BadNumber T) (hr.mono (by decide)) T.x_BadNumber.b .nil passL (by rfl) T.x_BadNumber.g (pa_cons pe_str pa_nil)))
  pss_nil) pss_nil)
  pss_nil), ?_⟩
  intro a as _
  change BJ K _ [some (.dat (eD a.1)), some (.dat (eI a.2))] _ _ _ _ _
  refine fun g σ H D hA hm => x_ifS ?_
  refine x_not ?_
  refine x_B ?_
  refine x_call3 ?_
  refine (ev_var rfl) _ _ _ _ _ hA fun v H hA => ?_
  replace hA := hA.box (Bx.hd bx_i)
  refine ev_int _ _ _ _ _ hA fun v H hA => ?_
  refine x_op ?_
  refine x_cb1 ?_
  refine (ev_var rfl) _ _ _ _ _ hA fun v H hA => ?_
  refine f_o1m o1_lenD hA hm fun t1 v H hA hm => ?_
  refine ev_int _ _ _ _ _ hA fun v H hA => ?_
  refine o2_i0 _ _ _ _ _ _ _ hA fun v H hA => ?_
  refine f_call [.d (eD (PyData.int a.2)), .d (eI (0 : Int)), .d (eI (t1 - (1 : Int)))] ((PyData.int a.2), (0 : Int), (t1 - (1 : Int))) (fun r => []) hA rfl rfl True.intro (fun as h => match as, h with | [], _ => rfl) (fun _ => rfl) (fun r as h => match as, h with | [], _ => rfl) (fun r j z => nomatch z) .nil (hm.bindR.imp (fun r2 hm v H hA => ?_) fun _ q => q)
  refine f_tst (P := fun c H1 => _) hA fun hA => ?_
  refine f_ifS hm (fun hm => ?_) (fun hm => ?_)
  ·
    refine bj_go hA hm ?_
    change BJ K _ [some (.dat (eD a.1)), some (.dat (eI a.2))] _ _ _ _ _
    refine bj_assoc ?_
    exact bj_raise1 (cn := "BadNumber") (dv := (PyData.str ("place" : Str))) T.ec_BadNumber T.x_BadNumber.oex (T.x_BadNumber.no _ (by decide)) rfl .nil (ev_box bx_s ev_str)
  ·
    refine bj_go hA hm ?_
    change BJ K _ [some (.dat (eD a.1)), some (.dat (eI a.2))] _ _ _ _ _
    refine bj_pass ?_
    exact bj_nx (a := ()) (.d (.d .nil))
theorem ok_rows_of_response (T : Txt K mg Z) : FnOk P w K mg base (L2.CX P w) 4 Z.f_rows_of_response Z.d_rows_of_response ["jobs", "place"] (Spec K Z.ec 2 pre_rows_of_response f_rows_of_response post_rows_of_response ret_rows_of_response) := by
  refine fn_ok T.d_rows_of_response.F sc_rows_of_response rfl m_rows_of_response fun cdv A outer s H E hr => ?_
  refine ⟨_, (pss_cons (ps_expr (pe_callS (ok_check_jobs T) (hr.mono (by decide)) (by rfl) T.d_check_jobs.g T.d_check_jobs.F.kp T.d_check_jobs.b (fun σ => passAt (takes_of rfl rfl rfl rfl) σ) (pa_cons (pv 0) pa_nil)))
  (pss_cons (ps_expr (pe_callS (ok_check_job_place T) (hr.mono (by decide)) (by rfl) T.d_check_job_place.g T.d_check_job_place.F.kp T.d_check_job_place.b (fun σ => passAt (takes_of rfl rfl rfl rfl) σ) (pa_cons (pv 0) (pa_cons (pv 1) pa_nil))))
  (pss_cons (ps_asg (pe_ix (r := rIxQ K) ix_q (pv 0) (pv 1) (fun _ _ => rfl)) (pg_seq rfl (pgs_cons (pg_name (i := 3) sc_rows_of_response.nd rfl (Or.inl rfl)) (pgs_cons (pg_name (i := 4) sc_rows_of_response.nd rfl (Or.inl rfl)) (pgs_cons (pg_name (i := 5) sc_rows_of_response.nd rfl (Or.inl rfl)) pgs_nil)))))
  (pss_cons (ps_set (i := 2) sc_rows_of_response.nd rfl (Or.inr rfl) (pe_lst (pa_cons (pv 3) pa_nil)))
  (pss_cons (ps_while (passes_of rfl) (pt_cmpR op_le (pe_ix (r := rIxL K) ix_list (pv 2) (pe_un un_neg pe_int) (fun _ _ => rfl)) (pv 4) (nomark _)) (pss_cons (ps_set (i := 6) sc_rows_of_response.nd rfl (Or.inl rfl) (pe_op op_add (pv 3) (pe_callB (r := rSum K) (cr_sum rfl) (by rfl) T.z_sum (by decide +kernel) (pa_cons (pe_lc (own := [("urgent", 7)]) (g := gName 7) rfl sc_rows_of_response.nd (pi_seqV (pe_slice (r := rSlQ K) (sl_q rfl) (pv 0) po_none (po_some (pv 1)))) (blkOk_by (N := ["jobs", "place", "found", "own", "period", "_", "total", "urgent"]) (sc := defScope st_rows_of_response) (by decide +kernel)) (fun _ _ _ _ _ => (pg_name (i := 7) sc_rows_of_response.nd rfl (Or.inl rfl))) (fun _ _ _ _ _ => pts_nil) (fun _ _ _ _ _ => (pe_op op_mul (pe_ix (r := rIxQ K) ix_q (pv 7) pe_int (fun _ _ => rfl)) (pe_un un_neg (pe_op op_fdiv (pe_un un_neg (pe_ix (r := rIxL K) ix_list (pv 2) (pe_un un_neg pe_int) (fun _ _ => rfl))) (pe_ix (r := rIxQ K) ix_q (pv 7) pe_int (fun _ _ => rfl))))))) pa_nil))))
  (pss_cons (ps_if (pt_cmpR op_eq (pv 6) (pe_ix (r := rIxL K) ix_list (pv 2) (pe_un un_neg pe_int) (fun _ _ => rfl)) (nomark _)) (pss_cons (ps_ret (pe_callTy (r := rTuple K) c_tuple (by rfl) T.z_tuple (by decide +kernel) (pa_cons (pv 2) pa_nil)))
  pss_nil) pss_nil)
  (pss_cons (ps_expr (pe_bm PySem.F.plainAttrs_list PySem.F.slot_list_append PySem.F.type_list_append mt_append (pv 2) (pa_cons (pv 6) pa_nil)))
  pss_nil))))
  (pss_cons (ps_ret (pe_callTy (r := rTuple K) c_tuple (by rfl) T.z_tuple (by decide +kernel) (pa_cons (pv 2) pa_nil)))
  pss_nil)))))), ?_⟩
  intro a as _
  change BJ K _ [some (.dat (eD a.1)), some (.dat (eI a.2)), none, none, none, none, none, none] _ _ _ _ _
  refine fun g σ H D hA hm => x_drop ?_
  refine x_call1 ?_
  refine (ev_var rfl) _ _ _ _ _ hA fun v H hA => ?_
  refine f_call [.d (eD a.1)] a.1 (fun r => []) hA rfl rfl True.intro (fun as h => match as, h with | [], _ => rfl) (fun _ => rfl) (fun r as h => match as, h with | [], _ => rfl) (fun r j z => nomatch z) .nil (hm.bindR.imp (fun r1 hm v H hA => ?_) fun _ q => q)
  refine f_dropgo hA hm ?_
  change BJ K _ [some (.dat (eD a.1)), some (.dat (eI a.2)), none, none, none, none, none, none] _ _ _ _ _
  refine fun g σ H D hA hm => x_drop ?_
  refine x_call2 ?_
  refine (ev_var rfl) _ _ _ _ _ hA fun v H hA => ?_
  refine (ev_var rfl) _ _ _ _ _ hA fun v H hA => ?_
  refine f_call [.d (eD a.1), .d (eI a.2)] (a.1, a.2) (fun r => []) hA rfl rfl True.intro (fun as h => match as, h with | [], _ => rfl) (fun _ => rfl) (fun r as h => match as, h with | [], _ => rfl) (fun r j z => nomatch z) .nil (hm.bindR.imp (fun r2 hm v H hA => ?_) fun _ q => q)
  refine f_dropgo hA hm ?_
  change BJ K _ [some (.dat (eD a.1)), some (.dat (eI a.2)), none, none, none, none, none, none] _ _ _ _ _
  refine fun g σ H D hA hm => x_asg ?_
  refine x_op ?_
  refine (ev_var rfl) _ _ _ _ _ hA fun v H hA => ?_
  refine (ev_var rfl) _ _ _ _ _ hA fun v H hA => ?_
  refine f_o2m o2_atD hA hm fun t3 v H hA hm => ?_
  refine f_unp3 hA hm fun q4 hA hm => ?_
  refine f_wint 0 rfl hA hm fun t5 hA hm => ?_
  refine f_wint 1 rfl hA hm fun t6 hA hm => ?_
  refine (tj_seq (qs := [eI t5, eI t6, eD q4.2.2]) (tjs_cons tj_name (tjs_cons tj_name (tjs_cons tj_name tjs_nil))) rfl).2 _ _ _ _ _ _ _ (hjl (sT := Unit) (Gl := fun _ => [some (.dat (eD a.1)), some (.dat (eI a.2)), none, none, none, none, none, none]) (js := [3, 4, 5]) (n := 8) (fun _ => rfl) (by decide) ()) (by intro y hy; cases hy) hA fun vs H _ hA => ?_
  replace hA : At K g [some (.dat (eD a.1)), some (.dat (eI a.2)), none, some (.dat (eI t5)), some (.dat (eI t6)), some (.dat (eD q4.2.2)), none, none] _ _ _ := hA
  refine bj_go hA hm ?_
  refine fun g σ H D hA hm => x_asg ?_
  refine (ev_lst [eI t5] (ea_cons (ev_var rfl) ea_nil)) _ _ _ _ _ hA fun v H hA => ?_
  refine f_setlt (e := [t5]) (fun t => .own none (.lst (List.map eI t))) hA (fun t j z => nomatch z) rfl hm (fun found_7 => ?_)
  change BJ K _ [some (.dat (eD a.1)), some (.dat (eI a.2)), some (.own none (.lst (List.map eI found_7))), some (.dat (eI t5)), some (.dat (eI t6)), some (.dat (eD q4.2.2)), none, none] _ _ _ _ _
  refine bj_while (fun (s8 : (List Int)) => [some (.dat (eD a.1)), some (.dat (eI a.2)), some (.own none (.lst (List.map eI s8))), some (.dat (eI t5)), some (.dat (eI t6)), none, none, none]) (s0 := found_7) (.s (.s (.s (.s (.s (.d (.d (.d .nil)))))))) (cj_fwd fun s8 g σ H Q hA hm => ?_) (fun s8 => ?_) (fun s8 => ?_)
  ·
    replace hA : At K g [some (.dat (eD a.1)), some (.dat (eI a.2)), some (.own none (.lst (List.map eI s8))), some (.dat (eI t5)), some (.dat (eI t6)), none, none, none] _ _ _ := hA
    refine x_test ?_
    refine x_op ?_
    refine x_op ?_
    refine (ev_own rfl) _ _ _ _ _ hA fun v H hA => ?_
    refine (ev_un ev_int o1_neg) _ _ _ _ _ hA fun v H hA => ?_
    refine f_o2m (o2_idxL (xs := s8) (e := eI) (.als rfl)) hA hm fun t9 v H hA hm => ?_
    refine (ev_var rfl) _ _ _ _ _ hA fun v H hA => ?_
    refine o2_c0 _ _ _ _ _ _ _ hA fun v H hA => ?_
    refine f_tst (P := fun c H1 => _) hA fun hA => ?_
    exact hm H hA
  ·
    change BJ K _ [some (.dat (eD a.1)), some (.dat (eI a.2)), some (.own none (.lst (List.map eI s8))), some (.dat (eI t5)), some (.dat (eI t6)), none, none, none] _ _ _ _ _
    refine fun g σ H D hA hm => x_asg ?_
    refine x_op ?_
    refine (ev_var rfl) _ _ _ _ _ hA fun v H hA => ?_
    refine x_cb1 ?_
    refine x_lcD ?_
    refine x_sl ?_
    refine (ev_var rfl) _ _ _ _ _ hA fun v H hA => ?_
    refine evo_none _ _ _ _ _ hA fun H hA => ?_
    refine (evo_some (ev_var rfl)) _ _ _ _ _ hA fun H hA => ?_
    refine f_cutD hA hm fun t10 v H hA hm => ?_
    refine wk_seq hA hm fun l11 hm => f_lcW (e := eD) (enc := eI) (js := [7]) (ps := fun b12 => [eD b12]) (fun (s13 : Unit) => [some (.dat (eD a.1)), some (.dat (eI a.2)), some (.own none (.lst (List.map eI s8))), some (.dat (eI t5)), some (.dat (eI t6)), none, none, none]) (()) (fun b => tj_name) (by decide) (hnl fun s => rfl) (hnl fun s => rfl) (by decide) (lj_fwd fun s13 b12 g σ τ H Q Qn hA hm => ?_) hm (fun r14 v H hA hm => ?_)
    ·
      replace hA : At K g [some (.dat (eD a.1)), some (.dat (eI a.2)), some (.own none (.lst (List.map eI s8))), some (.dat (eI t5)), some (.dat (eI t6)), none, none, some (.dat (eD b12))] _ _ _ := hA
      refine x_yes ?_
      refine x_op ?_
      refine x_op ?_
      refine (ev_var rfl) _ _ _ _ _ hA fun v H hA => ?_
      refine ev_int _ _ _ _ _ hA fun v H hA => ?_
      refine f_o2m o2_atD hA hm fun t15 v H hA hm => ?_
      refine x_un ?_
      refine x_op ?_
      refine x_un ?_
      refine x_op ?_
      refine (ev_own rfl) _ _ _ _ _ hA fun v H hA => ?_
      refine (ev_un ev_int o1_neg) _ _ _ _ _ hA fun v H hA => ?_
      refine f_o2m (o2_idxL (xs := s8) (e := eI) (.als rfl)) hA hm fun t16 v H hA hm => ?_
      refine o1_neg _ _ _ _ _ _ hA fun v H hA => ?_
      refine x_op ?_
      refine (ev_var rfl) _ _ _ _ _ hA fun v H hA => ?_
      refine ev_int _ _ _ _ _ hA fun v H hA => ?_
      refine f_o2m o2_atD hA hm fun t17 v H hA hm => ?_
      refine f_int hA hm fun t18 hA hm => ?_
      refine f_o2m o2_div hA hm fun t19 v H hA hm => ?_
      refine o1_neg _ _ _ _ _ _ hA fun v H hA => ?_
      refine f_int1 hA hm fun t20 hA hm => ?_
      refine f_o2m o2_mul hA hm fun t21 v H hA hm => ?_
      exact hm v H hA
    ·
      replace hA : At K g [some (.dat (eD a.1)), some (.dat (eI a.2)), some (.own none (.lst (List.map eI s8))), some (.dat (eI t5)), some (.dat (eI t6)), none, none, none] _ _ _ := hA
      refine o1_sum (xs := r14.2) .own _ _ _ _ _ _ hA fun v H hA => ?_
      refine o2_i0 _ _ _ _ _ _ _ hA fun v H hA => ?_
      refine f_setlt (e := (t5 + (r14.2).sum)) (fun t => .dat (eI t)) hA (fun t j z => nomatch z) rfl hm (fun total_22 => ?_)
      change BJ K _ [some (.dat (eD a.1)), some (.dat (eI a.2)), some (.own none (.lst (List.map eI s8))), some (.dat (eI t5)), some (.dat (eI t6)), none, some (.dat (eI total_22)), none] _ _ _ _ _
      refine fun g σ H D hA hm => x_ifS ?_
      refine x_test ?_
      refine x_op ?_
      refine (ev_var rfl) _ _ _ _ _ hA fun v H hA => ?_
      refine x_op ?_
      refine (ev_own rfl) _ _ _ _ _ hA fun v H hA => ?_
      refine (ev_un ev_int o1_neg) _ _ _ _ _ hA fun v H hA => ?_
      refine f_o2m (o2_idxL (xs := s8) (e := eI) (.als rfl)) hA hm fun t23 v H hA hm => ?_
      refine o2_eqI _ _ _ _ _ _ _ hA fun v H hA => ?_
      refine f_tst (P := fun c H1 => _) hA fun hA => ?_
      refine f_ifS hm (fun hm => ?_) (fun hm => ?_)
      ·
        refine bj_go hA hm ?_
        change BJ K _ [some (.dat (eD a.1)), some (.dat (eI a.2)), some (.own none (.lst (List.map eI s8))), some (.dat (eI t5)), some (.dat (eI t6)), none, some (.dat (eI total_22)), none] _ _ _ _ _
        refine bj_assoc ?_
        refine fun g σ H D hA hm => x_ret ?_
        refine (ev_cb1 (ev_own rfl) (o1_tuple (.l (.als rfl)))) _ _ _ _ _ hA fun v H hA => ?_
        exact hm v H _ (hA.weak1 (.d (.d .nil)) fun j z => nomatch z)
      ·
        refine bj_go hA hm ?_
        change BJ K _ [some (.dat (eD a.1)), some (.dat (eI a.2)), some (.own none (.lst (List.map eI s8))), some (.dat (eI t5)), some (.dat (eI t6)), none, some (.dat (eI total_22)), none] _ _ _ _ _
        refine bj_pass ?_
        refine fun g σ H D hA hm => x_drop ?_
        refine x_app rfl hA fun x H hA => ?_
        refine (ev_var rfl) _ _ _ _ _ hA fun v H hA => ?_
        refine f_appm (xs := s8) (e := eI) rfl hA hm fun ys24 H hA hm => ?_
        refine bj_go hA hm ?_
        change BJ K _ [some (.dat (eD a.1)), some (.dat (eI a.2)), some (.own none (.lst (List.map eI ys24))), some (.dat (eI t5)), some (.dat (eI t6)), none, some (.dat (eI total_22)), none] _ _ _ _ _
        exact bj_nx (a := ys24) (.s (.s (.s (.s (.s (.d (.d (.d .nil))))))))
  ·
    change BJ K _ [some (.dat (eD a.1)), some (.dat (eI a.2)), some (.own none (.lst (List.map eI s8))), some (.dat (eI t5)), some (.dat (eI t6)), none, none, none] _ _ _ _ _
    refine fun g σ H D hA hm => x_ret ?_
    refine (ev_cb1 (ev_own rfl) (o1_tuple (.l (.als rfl)))) _ _ _ _ _ hA fun v H hA => ?_
    exact hm v H _ (hA.weak1 (.d (.d .nil)) fun j z => nomatch z)
theorem ok_response (T : Txt K mg Z) : FnOk P w K mg base (L2.CX P w) 5 Z.f_response Z.d_response ["jobs", "place"] (Spec K Z.ec 2 pre_response f_response post_response ret_response) := by
  refine fn_ok T.d_response.F sc_response rfl m_response fun cdv A outer s H E hr => ?_
  refine ⟨_, (pss_cons (ps_set (i := 2) sc_response.nd rfl (Or.inl rfl) (pe_ix (r := rIxT K) ix_tup (pe_callS (ok_rows_of_response T) (hr.mono (by decide)) (by rfl) T.d_rows_of_response.g T.d_rows_of_response.F.kp T.d_rows_of_response.b (fun σ => passAt (takes_of rfl rfl rfl rfl) σ) (pa_cons (pv 0) (pa_cons (pv 1) pa_nil))) (pe_un un_neg pe_int) (fun _ _ => rfl)))
  (pss_cons (ps_ret (pe_ifExp (pt_cmpR op_le (pv 2) (pe_ix (r := rIxQ K) ix_q (pe_ix (r := rIxQ K) ix_q (pv 0) (pv 1) (fun _ _ => rfl)) pe_int (fun _ _ => rfl)) (nomark _)) (pv 2) pe_non))
  pss_nil)), ?_⟩
  intro a as _
  change BJ K _ [some (.dat (eD a.1)), some (.dat (eI a.2)), none] _ _ _ _ _
  refine fun g σ H D hA hm => x_asg ?_
  refine x_op ?_
  refine x_call2 ?_
  refine (ev_var rfl) _ _ _ _ _ hA fun v H hA => ?_
  refine (ev_var rfl) _ _ _ _ _ hA fun v H hA => ?_
  refine f_call [.d (eD a.1), .d (eI a.2)] (a.1, a.2) (fun r => []) hA rfl rfl True.intro (fun as h => match as, h with | [], _ => rfl) (fun _ => rfl) (fun r as h => match as, h with | [], _ => rfl) (fun r j z => nomatch z) .nil (hm.bindR.imp (fun r1 hm v H hA => ?_) fun _ q => q)
  refine (ev_un ev_int o1_neg) _ _ _ _ _ hA fun v H hA => ?_
  refine f_o2m (o2_idxT (xs := r1) (e := eI)) hA hm fun t2 v H hA hm => ?_
  refine f_setgo hA (fun j z => nomatch z) rfl hm ?_
  change BJ K _ [some (.dat (eD a.1)), some (.dat (eI a.2)), some (.dat (eI t2))] _ _ _ _ _
  refine fun g σ H D hA hm => x_ret ?_
  refine f_joinV (fun (s : (Option Int)) => [some (.dat (eD a.1)), some (.dat (eI a.2)), some (.dat (eI t2))]) (fun s => .dat ((eO eI) s)) hA hm (fun hm => ?_) (fun j3 v H hA hm => ?_)
  ·
    refine x_if ?_
    refine x_test ?_
    refine x_op ?_
    refine (ev_var rfl) _ _ _ _ _ hA fun v H hA => ?_
    refine x_op ?_
    refine x_op ?_
    refine (ev_var rfl) _ _ _ _ _ hA fun v H hA => ?_
    refine (ev_var rfl) _ _ _ _ _ hA fun v H hA => ?_
    refine f_o2m o2_atD hA hm fun t4 v H hA hm => ?_
    refine ev_int _ _ _ _ _ hA fun v H hA => ?_
    refine f_o2m o2_atD hA hm fun t5 v H hA hm => ?_
    refine f_int hA hm fun t6 hA hm => ?_
    refine o2_c0 _ _ _ _ _ _ _ hA fun v H hA => ?_
    refine f_tst (P := fun c H1 => _) hA fun hA => ?_
    refine f_pick hm (fun hm => ?_) (fun hm => ?_)
    ·
      refine (ev_var rfl) _ _ _ _ _ hA fun v H hA => ?_
      exact hm v H hA
    ·
      refine ev_non _ _ _ _ _ hA fun v H hA => ?_
      exact hm v H hA
  ·
    replace hA : At K g [some (.dat (eD a.1)), some (.dat (eI a.2)), some (.dat (eI t2))] _ _ _ := hA
    exact hm v H _ (hA.weak1 (.d (.d .nil)) fun j z => nomatch z)
theorem ok_never_misses (T : Txt K mg Z) : FnOk P w K mg base (L2.CX P w) 6 Z.f_never_misses Z.d_never_misses ["jobs"] (Spec K Z.ec 1 pre_never_misses f_never_misses post_never_misses ret_never_misses) := by
  refine fn_ok T.d_never_misses.F sc_never_misses rfl m_never_misses fun cdv A outer s H E hr => ?_
  refine ⟨_, (pss_cons (ps_expr (pe_callS (ok_check_jobs T) (hr.mono (by decide)) (by rfl) T.d_check_jobs.g T.d_check_jobs.F.kp T.d_check_jobs.b (fun σ => passAt (takes_of rfl rfl rfl rfl) σ) (pa_cons (pv 0) pa_nil)))
  (pss_cons (ps_ret (pe_callB (r := rAll K) (cr_all rfl) (by rfl) T.z_all (by decide +kernel) (pa_cons (pe_lc (own := [("place", 1)]) (g := gName 1) rfl sc_never_misses.nd (pi_range1 (by rfl) T.z_range (pa_cons (pe_callB (r := rLen K) c_len (by rfl) T.z_len (by decide +kernel) (pa_cons (pv 0) pa_nil)) pa_nil)) (blkOk_by (N := ["jobs", "place"]) (sc := defScope st_never_misses) (by decide +kernel)) (fun _ _ _ _ _ => (pg_name (i := 1) sc_never_misses.nd rfl (Or.inl rfl))) (fun _ _ _ _ _ => pts_nil) (fun _ _ _ _ _ => (pe_cmpR p_notN (pe_callS (ok_response T) (hr.mono (by decide)) (by rfl) T.d_response.g T.d_response.F.kp T.d_response.b (fun σ => passAt takes0 σ) (pa_cons (pv 0) (pa_cons (pv 1) pa_nil))) pe_non (nomark _)))) pa_nil)))
  pss_nil)), ?_⟩
  intro a as _
  change BJ K _ [some (.dat (eD a)), none] _ _ _ _ _
  refine fun g σ H D hA hm => x_drop ?_
  refine x_call1 ?_
  refine (ev_var rfl) _ _ _ _ _ hA fun v H hA => ?_
  refine f_call [.d (eD a)] a (fun r => []) hA rfl rfl True.intro (fun as h => match as, h with | [], _ => rfl) (fun _ => rfl) (fun r as h => match as, h with | [], _ => rfl) (fun r j z => nomatch z) .nil (hm.bindR.imp (fun r1 hm v H hA => ?_) fun _ q => q)
  refine f_dropgo hA hm ?_
  change BJ K _ [some (.dat (eD a)), none] _ _ _ _ _
  refine fun g σ H D hA hm => x_ret ?_
  refine x_cb1 ?_
  refine x_lcR1 ?_
  refine x_cb1 ?_
  refine (ev_var rfl) _ _ _ _ _ hA fun v H hA => ?_
  refine f_o1m o1_lenD hA hm fun t2 v H hA hm => ?_
  refine f_rng1 (b := t2) hA hm fun hm => f_lcW (e := eI) (enc := eB) (js := [1]) (ps := fun b4 => [eI b4]) (fun (s5 : Unit) => [some (.dat (eD a)), none]) (()) (fun b => tj_name) (by decide) (hnl fun s => rfl) (hnl fun s => rfl) (by decide) (lj_fwd fun s5 b4 g σ τ H Q Qn hA hm => ?_) hm (fun r6 v H hA hm => ?_)
  ·
    replace hA : At K g [some (.dat (eD a)), some (.dat (eI b4))] _ _ _ := hA
    refine x_yes ?_
    refine x_op ?_
    refine x_call2 ?_
    refine (ev_var rfl) _ _ _ _ _ hA fun v H hA => ?_
    refine (ev_var rfl) _ _ _ _ _ hA fun v H hA => ?_
    refine f_call [.d (eD a), .d (eI b4)] (a, b4) (fun r => []) hA rfl rfl True.intro (fun as h => match as, h with | [], _ => rfl) (fun _ => rfl) (fun r as h => match as, h with | [], _ => rfl) (fun r j z => nomatch z) .nil (hm.bindR.imp (fun r7 hm v H hA => ?_) fun _ q => q.elim)
    refine ev_non _ _ _ _ _ hA fun v H hA => ?_
    refine (o2_notN nn_i) _ _ _ _ _ _ _ hA fun v H hA => ?_
    exact hm v H hA
  ·
    replace hA : At K g [some (.dat (eD a)), none] _ _ _ := hA
    refine o1_all (xs := r6.2) .own _ _ _ _ _ _ hA fun v H hA => ?_
    exact hm v H _ (hA.weak1 (.d .nil) fun j z => nomatch z)
theorem ok_by_periods (T : Txt K mg Z) : FnOk P w K mg base (L2.CX P w) 4 Z.f_by_periods Z.d_by_periods ["jobs"] (Spec K Z.ec 1 pre_by_periods f_by_periods post_by_periods ret_by_periods) := by
  refine fn_ok T.d_by_periods.F sc_by_periods rfl m_by_periods fun cdv A outer s H E hr => ?_
  refine ⟨_, (pss_cons (ps_expr (pe_callS (ok_check_jobs T) (hr.mono (by decide)) (by rfl) T.d_check_jobs.g T.d_check_jobs.F.kp T.d_check_jobs.b (fun σ => passAt (takes_of rfl rfl rfl rfl) σ) (pa_cons (pv 0) pa_nil)))
  (pss_cons (ps_set (i := 1) sc_by_periods.nd rfl (Or.inl rfl) (pe_callB (r := rSortedPO K) cr_sortedPO (by rfl) T.z_sorted (by decide +kernel) (pa_cons (pe_lc (own := [("place", 2), ("job", 3)]) (g := gTup K 2 (gCons (gName 2) (gCons (gName 3) (gNil)))) rfl sc_by_periods.nd (pi_enumQ (by rfl) T.z_enumerate (pv 0)) (blkOk_by (N := ["jobs", "pairs", "place", "job", "pair"]) (sc := defScope st_by_periods) (by decide +kernel)) (fun _ _ _ _ _ => (pg_tup rfl (pgs_cons (pg_name (i := 2) sc_by_periods.nd rfl (Or.inl rfl)) (pgs_cons (pg_name (i := 3) sc_by_periods.nd rfl (Or.inl rfl)) pgs_nil)))) (fun _ _ _ _ _ => pts_nil) (fun _ _ _ _ _ => (pe_tup (pa_cons (pe_ix (r := rIxQ K) ix_q (pv 3) pe_int (fun _ _ => rfl)) (pa_cons (pv 2) pa_nil))))) pa_nil)))
  (pss_cons (ps_ret (pe_callTy (r := rTuple K) c_tuple (by rfl) T.z_tuple (by decide +kernel) (pa_cons (pe_lc (own := [("pair", 4)]) (g := gName 4) rfl sc_by_periods.nd (pi_list (pv 1)) (blkOk_by (N := ["jobs", "pairs", "place", "job", "pair"]) (sc := defScope st_by_periods) (by decide +kernel)) (fun _ _ _ _ _ => (pg_name (i := 4) sc_by_periods.nd rfl (Or.inl rfl))) (fun _ _ _ _ _ => pts_nil) (fun _ _ _ _ _ => (pe_ix (r := rIxT K) ix_tup (pv 4) pe_int (fun _ _ => rfl)))) pa_nil)))
  pss_nil))), ?_⟩
  intro a as _
  change BJ K _ [some (.dat (eD a)), none, none, none, none] _ _ _ _ _
  refine fun g σ H D hA hm => x_drop ?_
  refine x_call1 ?_
  refine (ev_var rfl) _ _ _ _ _ hA fun v H hA => ?_
  refine f_call [.d (eD a)] a (fun r => []) hA rfl rfl True.intro (fun as h => match as, h with | [], _ => rfl) (fun _ => rfl) (fun r as h => match as, h with | [], _ => rfl) (fun r j z => nomatch z) .nil (hm.bindR.imp (fun r1 hm v H hA => ?_) fun _ q => q)
  refine f_dropgo hA hm ?_
  change BJ K _ [some (.dat (eD a)), none, none, none, none] _ _ _ _ _
  refine fun g σ H D hA hm => x_asg ?_
  refine x_cb1 ?_
  refine x_lcE ?_
  refine (ev_var rfl) _ _ _ _ _ hA fun v H hA => ?_
  refine wk_enumD hA hm fun l2 hm => f_lcW (e := (eP2 eI eD)) (enc := eQ) (js := [2, 3]) (ps := fun b3 => [eI b3.1, eD b3.2]) (fun (s4 : Unit) => [some (.dat (eD a)), none, none, none, none]) (()) (fun b => (tj_tup (tjs_cons tj_name (tjs_cons tj_name tjs_nil)) rfl)) (by decide) (hnl fun s => rfl) (hnl fun s => rfl) (by decide) (lj_fwd fun s4 b3 g σ τ H Q Qn hA hm => ?_) hm (fun r5 v H hA hm => ?_)
  ·
    replace hA : At K g [some (.dat (eD a)), none, some (.dat (eI b3.1)), some (.dat (eD b3.2)), none] _ _ _ := hA
    refine x_yes ?_
    refine x_tup ?_
    refine x_cons ?_
    refine x_op ?_
    refine (ev_var rfl) _ _ _ _ _ hA fun v H hA => ?_
    refine ev_int _ _ _ _ _ hA fun v H hA => ?_
    refine f_o2m o2_atD hA hm fun t6 v H hA hm => ?_
    refine f_int hA hm fun t7 hA hm => ?_
    refine x_cons ?_
    refine (ev_var rfl) _ _ _ _ _ hA fun v H hA => ?_
    refine x_nil ?_
    refine f_tupQ hA fun v H hA => ?_
    exact hm v H hA
  ·
    replace hA : At K g [some (.dat (eD a)), none, none, none, none] _ _ _ := hA
    refine o1_sortedQ (xs := r5.2) .own _ _ _ _ _ _ hA fun v H hA => ?_
    replace hA := hA.frz
    refine f_setlt (e := (sortP r5.2)) (fun t => .dat ((eL eQ) t)) hA (fun t j z => nomatch z) rfl hm (fun pairs_8 => ?_)
    change BJ K _ [some (.dat (eD a)), some (.dat ((eL eQ) pairs_8)), none, none, none] _ _ _ _ _
    refine fun g σ H D hA hm => x_ret ?_
    refine x_cb1 ?_
    refine x_lcL ?_
    refine (ev_var rfl) _ _ _ _ _ hA fun v H hA => ?_
    refine wk_list (xs := pairs_8) (e := eQ) hA (f_lcW (e := eQ) (enc := eI) (js := [4]) (ps := fun b9 => [eQ b9]) (fun (s10 : Unit) => [some (.dat (eD a)), some (.dat ((eL eQ) pairs_8)), none, none, none]) (()) (fun b => tj_name) (by decide) (hnl fun s => rfl) (hnl fun s => rfl) (by decide) (lj_fwd fun s10 b9 g σ τ H Q Qn hA hm => ?_) hm (fun r11 v H hA hm => ?_))
    ·
      replace hA : At K g [some (.dat (eD a)), some (.dat ((eL eQ) pairs_8)), none, none, some (.dat (eQ b9))] _ _ _ := hA
      refine x_yes ?_
      refine x_op ?_
      refine (ev_var rfl) _ _ _ _ _ hA fun v H hA => ?_
      replace hA := hA.box (fun v S q => eQ_p q)
      refine ev_int _ _ _ _ _ hA fun v H hA => ?_
      refine (o2_ixK (p := eI b9.2) rfl) _ _ _ _ _ _ _ hA fun v H hA => ?_
      exact hm v H hA
    ·
      replace hA : At K g [some (.dat (eD a)), some (.dat ((eL eQ) pairs_8)), none, none, none] _ _ _ := hA
      refine o1_tuple (.l .own) _ _ _ _ _ _ hA fun v H hA => ?_
      exact hm v H _ (hA.weak1 (.d .nil) fun j z => nomatch z)
theorem ok_load (T : Txt K mg Z) : FnOk P w K mg base (L2.CX P w) 4 Z.f_load Z.d_load ["jobs"] (Spec K Z.ec 1 pre_load f_load post_load ret_load) := by
  refine fn_ok T.d_load.F sc_load rfl m_load fun cdv A outer s H E hr => ?_
  refine ⟨_, (pss_cons (ps_expr (pe_callS (ok_check_jobs T) (hr.mono (by decide)) (by rfl) T.d_check_jobs.g T.d_check_jobs.F.kp T.d_check_jobs.b (fun σ => passAt (takes_of rfl rfl rfl rfl) σ) (pa_cons (pv 0) pa_nil)))
  (pss_cons (ps_asg (pe_tup (pa_cons pe_int (pa_cons pe_int pa_nil))) (pg_tup rfl (pgs_cons (pg_name (i := 1) sc_load.nd rfl (Or.inl rfl)) (pgs_cons (pg_name (i := 2) sc_load.nd rfl (Or.inl rfl)) pgs_nil))))
  (pss_cons (ps_for (passes_of rfl) rfl (pi_seqV (pv 0)) (pg_seq rfl (pgs_cons (pg_name (i := 3) sc_load.nd rfl (Or.inl rfl)) (pgs_cons (pg_name (i := 4) sc_load.nd rfl (Or.inl rfl)) (pgs_cons (pg_name (i := 5) sc_load.nd rfl (Or.inl rfl)) pgs_nil)))) (pss_cons (ps_par (i := 1) (j := 2) rfl sc_load.nd rfl rfl (by decide) rfl rfl (pa_cons (pe_op op_add (pe_op op_mul (pv 1) (pv 4)) (pe_op op_mul (pv 3) (pv 2))) (pa_cons (pe_op op_mul (pv 2) (pv 4)) pa_nil)) rfl)
  (pss_cons (ps_set (i := 6) sc_load.nd rfl (Or.inl rfl) (pe_callBfun cr_gcd (by rfl) T.i_gcd (pa_cons (pv 1) (pa_cons (pv 2) pa_nil))))
  (pss_cons (ps_par (i := 1) (j := 2) rfl sc_load.nd rfl rfl (by decide) rfl rfl (pa_cons (pe_op op_fdiv (pv 1) (pv 6)) (pa_cons (pe_op op_fdiv (pv 2) (pv 6)) pa_nil)) rfl)
  pss_nil))))
  (pss_cons (ps_ret (pe_tup (pa_cons (pv 1) (pa_cons (pv 2) pa_nil))))
  pss_nil)))), ?_⟩
  intro a as _
  change BJ K _ [some (.dat (eD a)), none, none, none, none, none, none] _ _ _ _ _
  refine fun g σ H D hA hm => x_drop ?_
  refine x_call1 ?_
  refine (ev_var rfl) _ _ _ _ _ hA fun v H hA => ?_
  refine f_call [.d (eD a)] a (fun r => []) hA rfl rfl True.intro (fun as h => match as, h with | [], _ => rfl) (fun _ => rfl) (fun r as h => match as, h with | [], _ => rfl) (fun r j z => nomatch z) .nil (hm.bindR.imp (fun r1 hm v H hA => ?_) fun _ q => q)
  refine f_dropgo hA hm ?_
  change BJ K _ [some (.dat (eD a)), none, none, none, none, none, none] _ _ _ _ _
  refine fun g σ H D hA hm => x_asg ?_
  refine (ev_tup [eI (0 : Int), eI (1 : Int)] (ea_cons ev_int (ea_cons ev_int ea_nil))) _ _ _ _ _ hA fun v H hA => ?_
  refine (tj_tup (tjs_cons tj_name (tjs_cons tj_name tjs_nil)) rfl).2 _ _ _ _ _ _ _ (hjl (sT := Unit) (Gl := fun _ => [some (.dat (eD a)), none, none, none, none, none, none]) (js := [1, 2]) (n := 7) (fun _ => rfl) (by decide) ()) (by intro y hy; cases hy) hA fun vs H _ hA => ?_
  replace hA : At K g [some (.dat (eD a)), some (.dat (eI (((0 : Int), (1 : Int)).1))), some (.dat (eI (((0 : Int), (1 : Int)).2))), none, none, none, none] _ _ _ := hA
  refine bj_go hA hm ?_
  refine fun g σ H D hA hm => ?_
  refine x_forD ?_
  refine (ev_var rfl) _ _ _ _ _ hA fun v H hA => ?_
  refine wk_seq hA hm fun l2 hm => f_for (e := eD) (fun (s3 : (Int × Int)) => [none, some (.dat (eI s3.1)), some (.dat (eI s3.2)), none, none, none, none]) (s0 := (((0 : Int), (1 : Int)).1, ((0 : Int), (1 : Int)).2)) (.d (.s (.s (.d (.d (.d (.d .nil))))))) hm (fun s3 b4 g σ H D v hA hm => ?_) (fun s3 => ?_)
  ·
    refine f_unp3 hA hm fun q5 hA hm => ?_
    refine f_wint 0 rfl hA hm fun t6 hA hm => ?_
    refine f_wint 1 rfl hA hm fun t7 hA hm => ?_
    refine (tj_seq (qs := [eI t6, eI t7, eD q5.2.2]) (tjs_cons tj_name (tjs_cons tj_name (tjs_cons tj_name tjs_nil))) rfl).2 _ _ _ _ _ _ _ (hjl (sT := Unit) (Gl := fun _ => [none, some (.dat (eI s3.1)), some (.dat (eI s3.2)), none, none, none, none]) (js := [3, 4, 5]) (n := 7) (fun _ => rfl) (by decide) ()) (by intro y hy; cases hy) hA fun vs H _ hA => ?_
    replace hA : At K g [none, some (.dat (eI s3.1)), some (.dat (eI s3.2)), some (.dat (eI t6)), some (.dat (eI t7)), some (.dat (eD q5.2.2)), none] _ _ _ := hA
    refine bj_go hA hm ?_
    refine fun g σ H D hA hm => x_par ?_
    refine x_op ?_
    refine x_op ?_
    refine (ev_var rfl) _ _ _ _ _ hA fun v H hA => ?_
    refine (ev_var rfl) _ _ _ _ _ hA fun v H hA => ?_
    refine f_o2m o2_mul hA hm fun t8 v H hA hm => ?_
    refine x_op ?_
    refine (ev_var rfl) _ _ _ _ _ hA fun v H hA => ?_
    refine (ev_var rfl) _ _ _ _ _ hA fun v H hA => ?_
    refine f_o2m o2_mul hA hm fun t9 v H hA hm => ?_
    refine o2_i0 _ _ _ _ _ _ _ hA fun v H hA => ?_
    refine x_op ?_
    refine (ev_var rfl) _ _ _ _ _ hA fun v H hA => ?_
    refine (ev_var rfl) _ _ _ _ _ hA fun v H hA => ?_
    refine f_o2m o2_mul hA hm fun t10 v H hA hm => ?_
    refine f_par hA (fun j z => nomatch z) (fun j z => nomatch z) (show 2 < 7 by decide) (show 1 < 7 by decide) (by decide) hm ?_
    change BJ K _ [none, some (.dat (eI (t8 + t9))), some (.dat (eI t10)), some (.dat (eI t6)), some (.dat (eI t7)), some (.dat (eD q5.2.2)), none] _ _ _ _ _
    refine fun g σ H D hA hm => x_asg ?_
    refine x_cb2 ?_
    refine (ev_var rfl) _ _ _ _ _ hA fun v H hA => ?_
    refine (ev_var rfl) _ _ _ _ _ hA fun v H hA => ?_
    refine o2_gcd _ _ _ _ _ _ _ hA fun v H hA => ?_
    refine f_setlt (e := (gcdI (t8 + t9) t10)) (fun t => .dat (eI t)) hA (fun t j z => nomatch z) rfl hm (fun common_11 => ?_)
    change BJ K _ [none, some (.dat (eI (t8 + t9))), some (.dat (eI t10)), some (.dat (eI t6)), some (.dat (eI t7)), some (.dat (eD q5.2.2)), some (.dat (eI common_11))] _ _ _ _ _
    refine fun g σ H D hA hm => x_par ?_
    refine x_op ?_
    refine (ev_var rfl) _ _ _ _ _ hA fun v H hA => ?_
    refine (ev_var rfl) _ _ _ _ _ hA fun v H hA => ?_
    refine f_o2m o2_div hA hm fun t12 v H hA hm => ?_
    refine x_op ?_
    refine (ev_var rfl) _ _ _ _ _ hA fun v H hA => ?_
    refine (ev_var rfl) _ _ _ _ _ hA fun v H hA => ?_
    refine f_o2m o2_div hA hm fun t13 v H hA hm => ?_
    refine f_par hA (fun j z => nomatch z) (fun j z => nomatch z) (show 2 < 7 by decide) (show 1 < 7 by decide) (by decide) hm ?_
    change BJ K _ [none, some (.dat (eI t12)), some (.dat (eI t13)), some (.dat (eI t6)), some (.dat (eI t7)), some (.dat (eD q5.2.2)), some (.dat (eI common_11))] _ _ _ _ _
    exact bj_nx (a := (t12, t13)) (.d (.s (.s (.d (.d (.d (.d .nil)))))))
  ·
    change BJ K _ [none, some (.dat (eI s3.1)), some (.dat (eI s3.2)), none, none, none, none] _ _ _ _ _
    refine fun g σ H D hA hm => x_ret ?_
    refine (ev_tup [eI s3.1, eI s3.2] (ea_cons (ev_var rfl) (ea_cons (ev_var rfl) ea_nil))) _ _ _ _ _ hA fun v H hA => ?_
    exact hm v H _ (hA.weak1 (.d .nil) fun j z => nomatch z)
theorem ok_law_numbers (T : Txt K mg Z) : FnOk P w K mg base (L2.CX P w) 1 Z.f_law_numbers Z.d_law_numbers ["script"] (Spec K Z.ec 1 pre_law_numbers f_law_numbers post_law_numbers ret_law_numbers) := by
  refine fn_ok T.d_law_numbers.F sc_law_numbers rfl m_law_numbers fun cdv A outer s H E hr => ?_
  refine ⟨_, (pss_cons (ps_set (i := 1) sc_law_numbers.nd rfl (Or.inl rfl) (pe_lst pa_nil))
  (pss_cons (ps_for (passes_of rfl) rfl (pi_range1 (by rfl) T.z_range (pa_cons (pe_callB c_min2 (by rfl) T.z_min (by decide +kernel) (pa_cons (pe_callB (r := rLen K) c_len (by rfl) T.z_len (by decide +kernel) (pa_cons (pv 0) pa_nil)) (pa_cons pe_int pa_nil))) pa_nil)) (pg_name (i := 2) sc_law_numbers.nd rfl (Or.inl rfl)) (pss_cons (ps_set (i := 3) sc_law_numbers.nd rfl (Or.inl rfl) (pe_callTy c_int (by rfl) T.z_int (by decide +kernel) (pa_cons (pe_ix (r := rIxL K) ix_list (pv 0) (pv 2) (fun _ _ => rfl)) pa_nil)))
  (pss_cons (ps_set (i := 4) sc_law_numbers.nd rfl (Or.inl rfl) pe_int)
  (pss_cons (ps_if (pt_cmpR op_lt (pv 3) pe_int (nomark _)) (pss_cons (ps_set (i := 3) sc_law_numbers.nd rfl (Or.inl rfl) (pe_op op_sub pe_int (pv 3)))
  (pss_cons (ps_set (i := 4) sc_law_numbers.nd rfl (Or.inl rfl) pe_int)
  pss_nil)) pss_nil)
  (pss_cons (ps_if (pt_cmpR op_ge (pv 3) (pe_op op_pow pe_int pe_int) (nomark _)) (pss_cons (ps_for (passes_of rfl) rfl (pi_range1 (by rfl) T.z_range (pa_cons pe_int pa_nil)) (pg_name (i := 5) sc_law_numbers.nd rfl (Or.inl rfl)) (pss_cons (ps_if (pt_cmpR op_gt (pv 3) pe_int (nomark _)) (pss_cons (ps_expr (pe_bm PySem.F.plainAttrs_list PySem.F.slot_list_append PySem.F.type_list_append mt_append (pv 1) (pa_cons (pe_op op_mod (pe_callTy c_int (by rfl) T.z_int (by decide +kernel) (pa_cons (pv 3) pa_nil)) pe_int) pa_nil)))
  (pss_cons (ps_set (i := 3) sc_law_numbers.nd rfl (Or.inl rfl) (pe_op op_fdiv (pv 3) pe_int))
  pss_nil)) pss_nil)
  pss_nil))
  pss_nil) (pss_cons (ps_set (i := 6) sc_law_numbers.nd rfl (Or.inl rfl) (pe_op op_mod (pe_callTy c_int (by rfl) T.z_int (by decide +kernel) (pa_cons (pe_op op_add (pe_op op_add (pe_op op_add (pe_op op_mul (pv 3) pe_int) (pe_op op_mul (pv 2) pe_int)) (pe_op op_mul (pv 4) pe_int)) pe_int) pa_nil)) pe_int))
  (pss_cons (ps_for (passes_of rfl) rfl (pi_range1 (by rfl) T.z_range (pa_cons pe_int pa_nil)) (pg_name (i := 5) sc_law_numbers.nd rfl (Or.inl rfl)) (pss_cons (ps_set (i := 6) sc_law_numbers.nd rfl (Or.inl rfl) (pe_op op_mod (pe_callTy c_int (by rfl) T.z_int (by decide +kernel) (pa_cons (pe_op op_add (pe_op op_add (pe_op op_mul (pv 6) pe_int) (pe_op op_mul (pe_callTy c_int (by rfl) T.z_int (by decide +kernel) (pa_cons (pe_op op_fdiv (pv 6) pe_int) pa_nil)) (pv 5))) pe_int) pa_nil)) pe_int))
  (pss_cons (ps_expr (pe_bm PySem.F.plainAttrs_list PySem.F.slot_list_append PySem.F.type_list_append mt_append (pv 1) (pa_cons (pe_op op_mod (pe_callTy c_int (by rfl) T.z_int (by decide +kernel) (pa_cons (pe_op op_fdiv (pv 6) pe_int) pa_nil)) pe_int) pa_nil)))
  pss_nil)))
  pss_nil)))
  pss_nil)))))
  (pss_cons (ps_expr (pe_bm0 PySem.F.plainAttrs_list PySem.F.slot_list_reverse PySem.F.type_list_reverse mt_reverse (pv 1)))
  (pss_cons (ps_ret (pv 1))
  pss_nil)))), ?_⟩
  intro a as _
  change BJ K _ [some (.dat ((eL eI) a)), none, none, none, none, none, none] _ _ _ _ _
  refine fun g σ H D hA hm => x_asg ?_
  refine (ev_lst [] ea_nil) _ _ _ _ _ hA fun v H hA => ?_
  refine f_setlt (e := []) (fun t => .own none (.lst (List.map eI t))) hA (fun t j z => nomatch z) rfl hm (fun numbers_1 => ?_)
  change BJ K _ [some (.dat ((eL eI) a)), some (.own none (.lst (List.map eI numbers_1))), none, none, none, none, none] _ _ _ _ _
  refine fun g σ H D hA hm => ?_
  refine x_forR1 ?_
  refine (ev_cb2 (ev_cb1 (ev_var rfl) (o1_lenT a eI (.l .dat))) ev_int o2_min) _ _ _ _ _ hA fun v H hA => ?_
  refine f_rng1 (b := (minI ((a).length : Int) (63 : Int))) hA hm fun hm => f_for (e := eI) (fun (s3 : (List Int)) => [some (.dat ((eL eI) a)), some (.own none (.lst (List.map eI s3))), none, none, none, none, none]) (s0 := numbers_1) (.s (.s (.d (.d (.d (.d (.d .nil))))))) hm (hb_of (e := eI) (js := [2]) (ps := fun b4 => [eI b4]) (fun b => tj_name) (hjl (n := 7) (fun s => rfl) (by decide)) (fun s3 b4 => ?_)) (fun s3 => ?_)
  ·
    change BJ K _ [some (.dat ((eL eI) a)), some (.own none (.lst (List.map eI s3))), some (.dat (eI b4)), none, none, none, none] _ _ _ _ _
    refine fun g σ H D hA hm => x_asg ?_
    refine x_cb1 ?_
    refine x_op ?_
    refine (ev_var rfl) _ _ _ _ _ hA fun v H hA => ?_
    refine (ev_var rfl) _ _ _ _ _ hA fun v H hA => ?_
    refine f_o2m (o2_idxL (xs := a) (e := eI) .dat) hA hm fun t5 v H hA hm => ?_
    refine o1_int _ _ _ _ _ _ hA fun v H hA => ?_
    refine f_setgo hA (fun j z => nomatch z) rfl hm ?_
    change BJ K _ [some (.dat ((eL eI) a)), some (.own none (.lst (List.map eI s3))), some (.dat (eI b4)), some (.dat (eI t5)), none, none, none] _ _ _ _ _
    refine fun g σ H D hA hm => x_asg ?_
    refine ev_int _ _ _ _ _ hA fun v H hA => ?_
    refine f_setlt (e := (0 : Int)) (fun t => .dat (eI t)) hA (fun t j z => nomatch z) rfl hm (fun turned_6 => ?_)
    change BJ K _ [some (.dat ((eL eI) a)), some (.own none (.lst (List.map eI s3))), some (.dat (eI b4)), some (.dat (eI t5)), some (.dat (eI turned_6)), none, none] _ _ _ _ _
    refine bj_seq (n1 := fun (s7 : (Int × Int)) => [some (.dat ((eL eI) a)), some (.own none (.lst (List.map eI s3))), some (.dat (eI b4)), some (.dat (eI s7.1)), some (.dat (eI s7.2)), none, none]) ?_ (fun s7 => ?_)
    ·
      refine bj_if (evb_test (ev_op (ev_var rfl) ev_int o2_c0)) ?_ ?_
      ·
        refine fun g σ H D hA hm => x_asg ?_
        refine (ev_op ev_int (ev_var rfl) o2_i0) _ _ _ _ _ hA fun v H hA => ?_
        refine f_setlt (e := ((0 : Int) - t5)) (fun t => .dat (eI t)) hA (fun t j z => nomatch z) rfl hm (fun cell_8 => ?_)
        change BJ K _ [some (.dat ((eL eI) a)), some (.own none (.lst (List.map eI s3))), some (.dat (eI b4)), some (.dat (eI cell_8)), some (.dat (eI turned_6)), none, none] _ _ _ _ _
        refine fun g σ H D hA hm => x_asg ?_
        refine ev_int _ _ _ _ _ hA fun v H hA => ?_
        refine f_setlt (e := (1 : Int)) (fun t => .dat (eI t)) hA (fun t j z => nomatch z) rfl hm (fun turned_9 => ?_)
        change BJ K _ [some (.dat ((eL eI) a)), some (.own none (.lst (List.map eI s3))), some (.dat (eI b4)), some (.dat (eI cell_8)), some (.dat (eI turned_9)), none, none] _ _ _ _ _
        exact bj_nx (a := (cell_8, turned_9)) (.s (.s (.s (.s (.s (.d (.d .nil)))))))
      ·
        exact bj_nx (a := (t5, turned_6)) (.s (.s (.s (.s (.s (.d (.d .nil)))))))
    ·
      change BJ K _ [some (.dat ((eL eI) a)), some (.own none (.lst (List.map eI s3))), some (.dat (eI b4)), some (.dat (eI s7.1)), some (.dat (eI s7.2)), none, none] _ _ _ _ _
      refine bj_ifL (evb_test (ev_op (ev_var rfl) (ev_op ev_int ev_int o2_powK) o2_c0)) ?_ ?_
      ·
        refine bj_assoc ?_
        refine fun g σ H D hA hm => ?_
        refine x_forR1 ?_
        refine ev_int _ _ _ _ _ hA fun v H hA => ?_
        refine f_rng1 (b := (45 : Int)) hA hm fun hm => f_for (e := eI) (fun (s11 : ((List Int) × Int)) => [some (.dat ((eL eI) a)), some (.own none (.lst (List.map eI s11.1))), none, some (.dat (eI s11.2)), none, none, none]) (s0 := (s3, s7.1)) (.s (.s (.d (.s (.d (.d (.d .nil))))))) hm (hb_of (e := eI) (js := [5]) (ps := fun b12 => [eI b12]) (fun b => tj_name) (hjl (n := 7) (fun s => rfl) (by decide)) (fun s11 b12 => ?_)) (fun s11 => ?_)
        ·
          change BJ K _ [some (.dat ((eL eI) a)), some (.own none (.lst (List.map eI s11.1))), none, some (.dat (eI s11.2)), none, some (.dat (eI b12)), none] _ _ _ _ _
          refine bj_ifL (evb_test (ev_op (ev_var rfl) ev_int o2_c0)) ?_ ?_
          ·
            refine bj_assoc ?_
            refine fun g σ H D hA hm => x_drop ?_
            refine x_app rfl hA fun x H hA => ?_
            refine (ev_op (ev_cb1 (ev_var rfl) o1_int) ev_int o2_modK) _ _ _ _ _ hA fun v H hA => ?_
            refine f_appm (xs := s11.1) (e := eI) rfl hA hm fun ys13 H hA hm => ?_
            refine bj_go hA hm ?_
            change BJ K _ [some (.dat ((eL eI) a)), some (.own none (.lst (List.map eI ys13))), none, some (.dat (eI s11.2)), none, some (.dat (eI b12)), none] _ _ _ _ _
            refine bj_assoc ?_
            refine fun g σ H D hA hm => x_asg ?_
            refine (ev_op (ev_var rfl) ev_int o2_divK) _ _ _ _ _ hA fun v H hA => ?_
            refine f_setlt (e := (s11.2 / (60 : Int))) (fun t => .dat (eI t)) hA (fun t j z => nomatch z) rfl hm (fun cell_14 => ?_)
            change BJ K _ [some (.dat ((eL eI) a)), some (.own none (.lst (List.map eI ys13))), none, some (.dat (eI cell_14)), none, some (.dat (eI b12)), none] _ _ _ _ _
            refine bj_pass ?_
            exact bj_nx (a := (ys13, cell_14)) (.s (.s (.d (.s (.d (.d (.d .nil)))))))
          ·
            refine bj_pass ?_
            exact bj_nx (a := (s11.1, s11.2)) (.s (.s (.d (.s (.d (.d (.d .nil)))))))
        ·
          change BJ K _ [some (.dat ((eL eI) a)), some (.own none (.lst (List.map eI s11.1))), none, some (.dat (eI s11.2)), none, none, none] _ _ _ _ _
          refine bj_pass ?_
          exact bj_nx (a := s11.1) (.s (.s (.d (.d (.d (.d (.d .nil)))))))
      ·
        refine bj_assoc ?_
        refine fun g σ H D hA hm => x_asg ?_
        refine (ev_op (ev_cb1 (ev_op (ev_op (ev_op (ev_op (ev_var rfl) ev_int o2_mulK) (ev_op (ev_var rfl) ev_int o2_mulK) o2_i0) (ev_op (ev_var rfl) ev_int o2_mulK) o2_i0) ev_int o2_i0) o1_int) ev_int o2_modK) _ _ _ _ _ hA fun v H hA => ?_
        refine f_setlt (e := (((((s7.1 * (16807 : Int)) + (b4 * (7919 : Int))) + (s7.2 * (104729 : Int))) + (11 : Int)) % (2147483629 : Int))) (fun t => .dat (eI t)) hA (fun t j z => nomatch z) rfl hm (fun seed_15 => ?_)
        change BJ K _ [some (.dat ((eL eI) a)), some (.own none (.lst (List.map eI s3))), some (.dat (eI b4)), some (.dat (eI s7.1)), some (.dat (eI s7.2)), none, some (.dat (eI seed_15))] _ _ _ _ _
        refine bj_assoc ?_
        refine fun g σ H D hA hm => ?_
        refine x_forR1 ?_
        refine ev_int _ _ _ _ _ hA fun v H hA => ?_
        refine f_rng1 (b := (7 : Int)) hA hm fun hm => f_for (e := eI) (fun (s17 : ((List Int) × Int)) => [some (.dat ((eL eI) a)), some (.own none (.lst (List.map eI s17.1))), none, none, none, none, some (.dat (eI s17.2))]) (s0 := (s3, seed_15)) (.s (.s (.d (.d (.d (.d (.s .nil))))))) hm (hb_of (e := eI) (js := [5]) (ps := fun b18 => [eI b18]) (fun b => tj_name) (hjl (n := 7) (fun s => rfl) (by decide)) (fun s17 b18 => ?_)) (fun s17 => ?_)
        ·
          change BJ K _ [some (.dat ((eL eI) a)), some (.own none (.lst (List.map eI s17.1))), none, none, none, some (.dat (eI b18)), some (.dat (eI s17.2))] _ _ _ _ _
          refine fun g σ H D hA hm => x_asg ?_
          refine x_op ?_
          refine x_cb1 ?_
          refine x_op ?_
          refine x_op ?_
          refine (ev_op (ev_var rfl) ev_int o2_mulK) _ _ _ _ _ hA fun v H hA => ?_
          refine x_op ?_
          refine (ev_cb1 (ev_op (ev_var rfl) ev_int o2_divK) o1_int) _ _ _ _ _ hA fun v H hA => ?_
          refine (ev_var rfl) _ _ _ _ _ hA fun v H hA => ?_
          refine f_o2m o2_mul hA hm fun t19 v H hA hm => ?_
          refine o2_i0 _ _ _ _ _ _ _ hA fun v H hA => ?_
          refine ev_int _ _ _ _ _ hA fun v H hA => ?_
          refine o2_i0 _ _ _ _ _ _ _ hA fun v H hA => ?_
          refine o1_int _ _ _ _ _ _ hA fun v H hA => ?_
          refine ev_int _ _ _ _ _ hA fun v H hA => ?_
          refine (o2_modK) _ _ _ _ _ _ _ hA fun v H hA => ?_
          refine f_setlt (e := ((((s17.2 * (39373 : Int)) + t19) + (7919 : Int)) % (2147483629 : Int))) (fun t => .dat (eI t)) hA (fun t j z => nomatch z) rfl hm (fun seed_20 => ?_)
          change BJ K _ [some (.dat ((eL eI) a)), some (.own none (.lst (List.map eI s17.1))), none, none, none, some (.dat (eI b18)), some (.dat (eI seed_20))] _ _ _ _ _
          refine fun g σ H D hA hm => x_drop ?_
          refine x_app rfl hA fun x H hA => ?_
          refine (ev_op (ev_cb1 (ev_op (ev_var rfl) ev_int o2_divK) o1_int) ev_int o2_modK) _ _ _ _ _ hA fun v H hA => ?_
          refine f_appm (xs := s17.1) (e := eI) rfl hA hm fun ys21 H hA hm => ?_
          refine bj_go hA hm ?_
          change BJ K _ [some (.dat ((eL eI) a)), some (.own none (.lst (List.map eI ys21))), none, none, none, some (.dat (eI b18)), some (.dat (eI seed_20))] _ _ _ _ _
          exact bj_nx (a := (ys21, seed_20)) (.s (.s (.d (.d (.d (.d (.s .nil)))))))
        ·
          change BJ K _ [some (.dat ((eL eI) a)), some (.own none (.lst (List.map eI s17.1))), none, none, none, none, some (.dat (eI s17.2))] _ _ _ _ _
          refine bj_pass ?_
          exact bj_nx (a := s17.1) (.s (.s (.d (.d (.d (.d (.d .nil)))))))
  ·
    change BJ K _ [some (.dat ((eL eI) a)), some (.own none (.lst (List.map eI s3))), none, none, none, none, none] _ _ _ _ _
    refine bj_rev (xs := s3) (e := eI) rfl (fun ys22 => ?_)
    change BJ K _ [some (.dat ((eL eI) a)), some (.own none (.lst (List.map eI ys22))), none, none, none, none, none] _ _ _ _ _
    exact bj_retO (r := ys22) (i := 1) rfl rfl (.d .nil)
theorem ok_law_draw (T : Txt K mg Z) : FnOk P w K mg base (L2.CX P w) 1 Z.f_law_draw Z.d_law_draw ["numbers", "many"] (Spec K Z.ec 2 pre_law_draw f_law_draw post_law_draw ret_law_draw) := by
  refine fn_ok T.d_law_draw.F sc_law_draw rfl m_law_draw fun cdv A outer s H E hr => ?_
  refine ⟨_, (pss_cons (ps_if (pt_cmpR op_eq (pe_callB (r := rLen K) c_len (by rfl) T.z_len (by decide +kernel) (pa_cons (pv 0) pa_nil)) pe_int (nomark _)) (pss_cons (ps_ret pe_int)
  pss_nil) pss_nil)
  (pss_cons (ps_ret (pe_op op_mod (pe_callTy c_int (by rfl) T.z_int (by decide +kernel) (pa_cons (pe_bm0 PySem.F.plainAttrs_list PySem.F.slot_list_pop PySem.F.type_list_pop mt_pop (pv 0)) pa_nil)) (pv 1)))
  pss_nil)), ?_⟩
  intro a as _
  change BJ K _ [some (.own (as[0]?) (.lst (List.map eI a.1))), some (.dat (eI a.2))] _ _ _ _ _
  refine bj_ifL (evb_test (ev_op (ev_cb1 (ev_own rfl) (o1_lenT a.1 eI (.l (.als rfl)))) ev_int o2_eqI)) ?_ ?_
  ·
    refine bj_assoc ?_
    refine fun g σ H D hA hm => x_ret ?_
    refine ev_int _ _ _ _ _ hA fun v H hA => ?_
    exact hm v H _ (hA.weak1 (.s (.d .nil)) fun j z => nomatch z)
  ·
    refine bj_pass ?_
    refine fun g σ H D hA hm => x_ret ?_
    refine x_op ?_
    refine x_cb1 ?_
    refine f_popm (xs := a.1) (e := eI) rfl hA hm fun t1 v H hA hm => ?_
    replace hA : At K g [some (.own (as[0]?) (.lst (List.map eI t1.2))), some (.dat (eI a.2))] _ _ _ := hA
    refine o1_int _ _ _ _ _ _ hA fun v H hA => ?_
    refine (ev_var rfl) _ _ _ _ _ hA fun v H hA => ?_
    refine f_o2m o2_mod hA hm fun t2 v H hA hm => ?_
    exact hm v H _ (hA.weak1 (.s (.d .nil)) fun j z => nomatch z)
theorem ok_law_int (T : Txt K mg Z) : FnOk P w K mg base (L2.CX P w) 1 Z.f_law_int Z.d_law_int ["value"] (Spec K Z.ec 1 pre_law_int f_law_int post_law_int ret_law_int) := by
  refine fn_ok T.d_law_int.F sc_law_int rfl m_law_int fun cdv A outer s H E hr => ?_
  refine ⟨_, (pss_cons (ps_ret (pe_and (pe_callB (r := rIsi K) call_isi (by rfl) T.z_isinstance (by decide +kernel) (pa_cons (pv 0) (pa_cons (pe_bltn (v := .ty "int") (u := .type "int") (by rfl) T.z_int (by decide +kernel) rfl) pa_nil))) (pe_one (pe_not (pe_callB (r := rIsi K) call_isi (by rfl) T.z_isinstance (by decide +kernel) (pa_cons (pv 0) (pa_cons (pe_bltn (v := .ty "bool") (u := .type "bool") (by rfl) T.z_bool (by decide +kernel) rfl) pa_nil)))))))
  pss_nil), ?_⟩
  intro a as _
  change BJ K _ [some (.dat (eD a))] _ _ _ _ _
  refine fun g σ H D hA hm => x_ret ?_
  refine (ev_andV (ev_isi (d := a) .int (ev_var rfl) dpt_d) (ev_notV (ev_isi (d := a) .bool (ev_var rfl) dpt_d))) _ _ _ _ _ hA fun v H hA => ?_
  exact hm v H _ (hA.weak1 (.d .nil) fun j z => nomatch z)
theorem ok_law_any_jobs (T : Txt K mg Z) : FnOk P w K mg base (L2.CX P w) 2 Z.f_law_any_jobs Z.d_law_any_jobs ["numbers"] (Spec K Z.ec 1 pre_law_any_jobs f_law_any_jobs post_law_any_jobs ret_law_any_jobs) := by
  refine fn_ok T.d_law_any_jobs.F sc_law_any_jobs rfl m_law_any_jobs fun cdv A outer s H E hr => ?_
  refine ⟨_, (pss_cons (ps_set (i := 1) sc_law_any_jobs.nd rfl (Or.inl rfl) (pe_lst pa_nil))
  (pss_cons (ps_for (passes_of rfl) rfl (pi_range1 (by rfl) T.z_range (pa_cons (pe_callS (ok_law_draw T) (hr.mono (by decide)) (by rfl) T.d_law_draw.g T.d_law_draw.F.kp T.d_law_draw.b (fun σ => passAt (takes_of rfl rfl rfl rfl) σ) (pa_cons (pv 0) (pa_cons pe_int pa_nil))) pa_nil)) (pg_name (i := 2) sc_law_any_jobs.nd rfl (Or.inl rfl)) (pss_cons (ps_set (i := 3) sc_law_any_jobs.nd rfl (Or.inl rfl) (pe_op op_add pe_int (pe_op op_mod (pe_callTy c_int (by rfl) T.z_int (by decide +kernel) (pa_cons (pe_callS (ok_law_draw T) (hr.mono (by decide)) (by rfl) T.d_law_draw.g T.d_law_draw.F.kp T.d_law_draw.b (fun σ => passAt (takes_of rfl rfl rfl rfl) σ) (pa_cons (pv 0) (pa_cons pe_int pa_nil))) pa_nil)) (pe_ix (r := rIxL K) ix_list (pe_lst (pa_cons pe_int (pa_cons pe_int pa_nil))) (pe_callS (ok_law_draw T) (hr.mono (by decide)) (by rfl) T.d_law_draw.g T.d_law_draw.F.kp T.d_law_draw.b (fun σ => passAt (takes_of rfl rfl rfl rfl) σ) (pa_cons (pv 0) (pa_cons pe_int pa_nil))) (fun _ _ => rfl)))))
  (pss_cons (ps_expr (pe_bm PySem.F.plainAttrs_list PySem.F.slot_list_append PySem.F.type_list_append mt_append (pv 1) (pa_cons (pe_tup (pa_cons (pe_op op_add pe_int (pe_callS (ok_law_draw T) (hr.mono (by decide)) (by rfl) T.d_law_draw.g T.d_law_draw.F.kp T.d_law_draw.b (fun σ => passAt (takes_of rfl rfl rfl rfl) σ) (pa_cons (pv 0) (pa_cons pe_int pa_nil)))) (pa_cons (pv 3) (pa_cons (pe_callS (ok_law_draw T) (hr.mono (by decide)) (by rfl) T.d_law_draw.g T.d_law_draw.F.kp T.d_law_draw.b (fun σ => passAt (takes_of rfl rfl rfl rfl) σ) (pa_cons (pv 0) (pa_cons (pv 3) pa_nil))) pa_nil)))) pa_nil)))
  pss_nil)))
  (pss_cons (ps_ret (pv 1))
  pss_nil))), ?_⟩
  intro a as _
  change BJ K _ [some (.own (as[0]?) (.lst (List.map eI a))), none, none, none] _ _ _ _ _
  refine fun g σ H D hA hm => x_asg ?_
  refine (ev_lst [] ea_nil) _ _ _ _ _ hA fun v H hA => ?_
  refine f_setlt (e := []) (fun t => .own none (.lst (List.map (eP3 eI eI eI) t))) hA (fun t j z => nomatch z) rfl hm (fun jobs_1 => ?_)
  change BJ K _ [some (.own (as[0]?) (.lst (List.map eI a))), some (.own none (.lst (List.map (eP3 eI eI eI) jobs_1))), none, none] _ _ _ _ _
  refine fun g σ H D hA hm => ?_
  refine x_forR1 ?_
  refine x_call2 ?_
  refine (ev_own rfl) _ _ _ _ _ hA fun v H hA => ?_
  refine ev_int _ _ _ _ _ hA fun v H hA => ?_
  refine f_call [.o 0 (as[0]?) (.lst (List.map eI a)), .d (eI (5 : Int))] (a, (5 : Int)) (fun r => [.lst (List.map eI r.2)]) hA rfl rfl ⟨rfl, True.intro⟩ (fun as h => match as, h with | [_], _ => rfl) (fun _ => rfl) (fun r as h => match as, h with | [_], _ => rfl) (fun r j z => nomatch z) .nil (hm.bindR.imp (fun r2 hm v H hA => ?_) fun _ q => q)
  replace hA : At K g [some (.own (as[0]?) (.lst (List.map eI r2.2))), some (.own none (.lst (List.map (eP3 eI eI eI) jobs_1))), none, none] _ _ _ := hA
  refine f_rng1 (b := r2.1) hA hm fun hm => f_for (e := eI) (fun (s4 : ((List Int) × (List (Int × Int × Int)))) => [some (.own (as[0]?) (.lst (List.map eI s4.1))), some (.own none (.lst (List.map (eP3 eI eI eI) s4.2))), none, none]) (s0 := (r2.2, jobs_1)) (.s (.s (.d (.d .nil)))) hm (hb_of (e := eI) (js := [2]) (ps := fun b5 => [eI b5]) (fun b => tj_name) (hjl (n := 4) (fun s => rfl) (by decide)) (fun s4 b5 => ?_)) (fun s4 => ?_)
  ·
    change BJ K _ [some (.own (as[0]?) (.lst (List.map eI s4.1))), some (.own none (.lst (List.map (eP3 eI eI eI) s4.2))), some (.dat (eI b5)), none] _ _ _ _ _
    refine fun g σ H D hA hm => x_asg ?_
    refine x_op ?_
    refine ev_int _ _ _ _ _ hA fun v H hA => ?_
    refine x_op ?_
    refine x_cb1 ?_
    refine x_call2 ?_
    refine (ev_own rfl) _ _ _ _ _ hA fun v H hA => ?_
    refine ev_int _ _ _ _ _ hA fun v H hA => ?_
    refine f_call [.o 0 (as[0]?) (.lst (List.map eI s4.1)), .d (eI (24 : Int))] (s4.1, (24 : Int)) (fun r => [.lst (List.map eI r.2)]) hA rfl rfl ⟨rfl, True.intro⟩ (fun as h => match as, h with | [_], _ => rfl) (fun _ => rfl) (fun r as h => match as, h with | [_], _ => rfl) (fun r j z => nomatch z) .nil (hm.bindR.imp (fun r6 hm v H hA => ?_) fun _ q => q)
    replace hA : At K g [some (.own (as[0]?) (.lst (List.map eI r6.2))), some (.own none (.lst (List.map (eP3 eI eI eI) s4.2))), some (.dat (eI b5)), none] _ _ _ := hA
    refine o1_int _ _ _ _ _ _ hA fun v H hA => ?_
    refine x_op ?_
    refine (ev_lst [eI (24 : Int), eI (6 : Int)] (ea_cons ev_int (ea_cons ev_int ea_nil))) _ _ _ _ _ hA fun v H hA => ?_
    refine x_call2 ?_
    refine (ev_own rfl) _ _ _ _ _ hA fun v H hA => ?_
    refine ev_int _ _ _ _ _ hA fun v H hA => ?_
    refine f_call [.o 0 (as[0]?) (.lst (List.map eI r6.2)), .d (eI (2 : Int))] (r6.2, (2 : Int)) (fun r => [.lst (List.map eI r.2)]) hA rfl rfl ⟨rfl, True.intro⟩ (fun as h => match as, h with | [_], _ => rfl) (fun _ => rfl) (fun r as h => match as, h with | [_], _ => rfl) (fun r j z => nomatch z) .nil (hm.bindR.imp (fun r7 hm v H hA => ?_) fun _ q => q)
    replace hA : At K g [some (.own (as[0]?) (.lst (List.map eI r7.2))), some (.own none (.lst (List.map (eP3 eI eI eI) s4.2))), some (.dat (eI b5)), none] _ _ _ := hA
    refine f_o2m (o2_idxL (xs := [(24 : Int), (6 : Int)]) (e := eI) .own) hA hm fun t8 v H hA hm => ?_
    refine f_o2m o2_mod hA hm fun t9 v H hA hm => ?_
    refine o2_i0 _ _ _ _ _ _ _ hA fun v H hA => ?_
    refine f_setlt (e := ((1 : Int) + t9)) (fun t => .dat (eI t)) hA (fun t j z => nomatch z) rfl hm (fun period_10 => ?_)
    change BJ K _ [some (.own (as[0]?) (.lst (List.map eI r7.2))), some (.own none (.lst (List.map (eP3 eI eI eI) s4.2))), some (.dat (eI b5)), some (.dat (eI period_10))] _ _ _ _ _
    refine fun g σ H D hA hm => x_drop ?_
    refine x_app rfl hA fun x H hA => ?_
    refine x_tup ?_
    refine x_cons ?_
    refine x_op ?_
    refine ev_int _ _ _ _ _ hA fun v H hA => ?_
    refine x_call2 ?_
    refine (ev_own rfl) _ _ _ _ _ hA fun v H hA => ?_
    refine ev_int _ _ _ _ _ hA fun v H hA => ?_
    refine f_call [.o 0 (as[0]?) (.lst (List.map eI r7.2)), .d (eI (6 : Int))] (r7.2, (6 : Int)) (fun r => [.lst (List.map eI r.2)]) hA rfl rfl ⟨rfl, True.intro⟩ (fun as h => match as, h with | [_], _ => rfl) (fun _ => rfl) (fun r as h => match as, h with | [_], _ => rfl) (fun r j z => nomatch z) .nil (hm.bindR.imp (fun r11 hm v H hA => ?_) fun _ q => q)
    replace hA : At K g [some (.own (as[0]?) (.lst (List.map eI r11.2))), some (.own none (.lst (List.map (eP3 eI eI eI) s4.2))), some (.dat (eI b5)), some (.dat (eI period_10))] _ _ _ := hA
    refine o2_i0 _ _ _ _ _ _ _ hA fun v H hA => ?_
    refine x_cons ?_
    refine (ev_var rfl) _ _ _ _ _ hA fun v H hA => ?_
    refine x_cons ?_
    refine x_call2 ?_
    refine (ev_own rfl) _ _ _ _ _ hA fun v H hA => ?_
    refine (ev_var rfl) _ _ _ _ _ hA fun v H hA => ?_
    refine f_call [.o 0 (as[0]?) (.lst (List.map eI r11.2)), .d (eI period_10)] (r11.2, period_10) (fun r => [.lst (List.map eI r.2)]) hA rfl rfl ⟨rfl, True.intro⟩ (fun as h => match as, h with | [_], _ => rfl) (fun _ => rfl) (fun r as h => match as, h with | [_], _ => rfl) (fun r j z => nomatch z) .nil (hm.bindR.imp (fun r12 hm v H hA => ?_) fun _ q => q)
    replace hA : At K g [some (.own (as[0]?) (.lst (List.map eI r12.2))), some (.own none (.lst (List.map (eP3 eI eI eI) s4.2))), some (.dat (eI b5)), some (.dat (eI period_10))] _ _ _ := hA
    refine x_nil ?_
    refine f_tup (vs := [_, _, _]) [eI ((1 : Int) + r11.1), eI period_10, eI r12.1] hA rfl (Nat.le_of_ble_eq_true rfl) fun v H hA => ?_
    refine f_appm (xs := s4.2) (e := (eP3 eI eI eI)) rfl hA hm fun ys13 H hA hm => ?_
    refine bj_go hA hm ?_
    change BJ K _ [some (.own (as[0]?) (.lst (List.map eI r12.2))), some (.own none (.lst (List.map (eP3 eI eI eI) ys13))), some (.dat (eI b5)), some (.dat (eI period_10))] _ _ _ _ _
    exact bj_nx (a := (r12.2, ys13)) (.s (.s (.d (.d .nil))))
  ·
    change BJ K _ [some (.own (as[0]?) (.lst (List.map eI s4.1))), some (.own none (.lst (List.map (eP3 eI eI eI) s4.2))), none, none] _ _ _ _ _
    refine bj_frz (i := 1) rfl ?_
    change BJ K _ [some (.own (as[0]?) (.lst (List.map eI s4.1))), some (.dat ((eL (eP3 eI eI eI)) s4.2)), none, none] _ _ _ _ _
    refine fun g σ H D hA hm => x_ret ?_
    refine (ev_var rfl) _ _ _ _ _ hA fun v H hA => ?_
    exact hm v H _ (hA.weak1 (.s .nil) fun j z => nomatch z)
theorem ok_law_dividing (T : Txt K mg Z) : FnOk P w K mg base (L2.CX P w) 2 Z.f_law_dividing Z.d_law_dividing ["numbers"] (Spec K Z.ec 1 pre_law_dividing f_law_dividing post_law_dividing ret_law_dividing) := by
  refine fn_ok T.d_law_dividing.F sc_law_dividing rfl m_law_dividing fun cdv A outer s H E hr => ?_
  refine ⟨_, (pss_cons (ps_set (i := 1) sc_law_dividing.nd rfl (Or.inl rfl) (pe_lst pa_nil))
  (pss_cons (ps_set (i := 2) sc_law_dividing.nd rfl (Or.inl rfl) (pe_op op_add pe_int (pe_callS (ok_law_draw T) (hr.mono (by decide)) (by rfl) T.d_law_draw.g T.d_law_draw.F.kp T.d_law_draw.b (fun σ => passAt (takes_of rfl rfl rfl rfl) σ) (pa_cons (pv 0) (pa_cons pe_int pa_nil)))))
  (pss_cons (ps_for (passes_of rfl) rfl (pi_range1 (by rfl) T.z_range (pa_cons (pe_op op_add pe_int (pe_callS (ok_law_draw T) (hr.mono (by decide)) (by rfl) T.d_law_draw.g T.d_law_draw.F.kp T.d_law_draw.b (fun σ => passAt (takes_of rfl rfl rfl rfl) σ) (pa_cons (pv 0) (pa_cons pe_int pa_nil)))) pa_nil)) (pg_name (i := 3) sc_law_dividing.nd rfl (Or.inl rfl)) (pss_cons (ps_set (i := 6) sc_law_dividing.nd rfl (Or.inl rfl) (pe_op op_add pe_int (pe_op op_mod (pe_callTy c_int (by rfl) T.z_int (by decide +kernel) (pa_cons (pe_callS (ok_law_draw T) (hr.mono (by decide)) (by rfl) T.d_law_draw.g T.d_law_draw.F.kp T.d_law_draw.b (fun σ => passAt (takes_of rfl rfl rfl rfl) σ) (pa_cons (pv 0) (pa_cons pe_int pa_nil))) pa_nil)) (pe_callB c_max2 (by rfl) T.z_max (by decide +kernel) (pa_cons pe_int (pa_cons (pe_op op_fdiv (pv 2) pe_int) pa_nil))))))
  (pss_cons (ps_expr (pe_bm PySem.F.plainAttrs_list PySem.F.slot_list_append PySem.F.type_list_append mt_append (pv 1) (pa_cons (pe_tup (pa_cons (pe_callB c_min2 (by rfl) T.z_min (by decide +kernel) (pa_cons (pv 6) (pa_cons pe_int pa_nil))) (pa_cons (pv 2) (pa_cons (pe_callS (ok_law_draw T) (hr.mono (by decide)) (by rfl) T.d_law_draw.g T.d_law_draw.F.kp T.d_law_draw.b (fun σ => passAt (takes_of rfl rfl rfl rfl) σ) (pa_cons (pv 0) (pa_cons (pv 2) pa_nil))) pa_nil)))) pa_nil)))
  (pss_cons (ps_set (i := 7) sc_law_dividing.nd rfl (Or.inl rfl) (pe_op op_mul (pv 2) (pe_op op_add pe_int (pe_callS (ok_law_draw T) (hr.mono (by decide)) (by rfl) T.d_law_draw.g T.d_law_draw.F.kp T.d_law_draw.b (fun σ => passAt (takes_of rfl rfl rfl rfl) σ) (pa_cons (pv 0) (pa_cons pe_int pa_nil))))))
  (pss_cons (ps_if (pt_cmpR op_le (pv 7) pe_int (nomark _)) (pss_cons (ps_set (i := 2) sc_law_dividing.nd rfl (Or.inl rfl) (pv 7))
  pss_nil) pss_nil)
  pss_nil)))))
  (pss_cons (ps_set (i := 4) sc_law_dividing.nd rfl (Or.inl rfl) (pe_ix (r := rIxT K) ix_tup (pe_ix (r := rIxL K) ix_list (pv 1) (pe_op op_sub (pe_callB (r := rLen K) c_len (by rfl) T.z_len (by decide +kernel) (pa_cons (pv 1) pa_nil)) pe_int) (fun _ _ => rfl)) pe_int (fun _ _ => rfl)))
  (pss_cons (ps_for (passes_of rfl) rfl (pi_list (pe_slice (r := rSlL K) sl_list (pv 1) po_none (po_some (pe_op op_sub (pe_callB (r := rLen K) c_len (by rfl) T.z_len (by decide +kernel) (pa_cons (pv 1) pa_nil)) pe_int)))) (pg_name (i := 5) sc_law_dividing.nd rfl (Or.inl rfl)) (pss_cons (ps_set (i := 4) sc_law_dividing.nd rfl (Or.inl rfl) (pe_op op_sub (pv 4) (pe_op op_mul (pe_ix (r := rIxT K) ix_tup (pv 5) pe_int (fun _ _ => rfl)) (pe_op op_fdiv (pe_ix (r := rIxT K) ix_tup (pe_ix (r := rIxL K) ix_list (pv 1) (pe_op op_sub (pe_callB (r := rLen K) c_len (by rfl) T.z_len (by decide +kernel) (pa_cons (pv 1) pa_nil)) pe_int) (fun _ _ => rfl)) pe_int (fun _ _ => rfl)) (pe_ix (r := rIxT K) ix_tup (pv 5) pe_int (fun _ _ => rfl))))))
  pss_nil))
  (pss_cons (ps_set (i := 6) sc_law_dividing.nd rfl (Or.inl rfl) (pe_op op_add (pv 4) (pe_ix (r := rIxL K) ix_list (pe_lst (pa_cons pe_int (pa_cons pe_int (pa_cons (pe_un un_neg pe_int) (pa_cons pe_int pa_nil))))) (pe_callS (ok_law_draw T) (hr.mono (by decide)) (by rfl) T.d_law_draw.g T.d_law_draw.F.kp T.d_law_draw.b (fun σ => passAt (takes_of rfl rfl rfl rfl) σ) (pa_cons (pv 0) (pa_cons pe_int pa_nil))) (fun _ _ => rfl))))
  (pss_cons (ps_if (pt_chain op_le op_le pe_int (pv 6) pe_int) (pss_cons (ps_asg (pe_tup (pa_cons (pv 6) (pa_cons (pe_ix (r := rIxT K) ix_tup (pe_ix (r := rIxL K) ix_list (pv 1) (pe_op op_sub (pe_callB (r := rLen K) c_len (by rfl) T.z_len (by decide +kernel) (pa_cons (pv 1) pa_nil)) pe_int) (fun _ _ => rfl)) pe_int (fun _ _ => rfl)) (pa_cons (pe_ix (r := rIxT K) ix_tup (pe_ix (r := rIxL K) ix_list (pv 1) (pe_op op_sub (pe_callB (r := rLen K) c_len (by rfl) T.z_len (by decide +kernel) (pa_cons (pv 1) pa_nil)) pe_int) (fun _ _ => rfl)) pe_int (fun _ _ => rfl)) pa_nil)))) (pg_sub (pv 1) (pe_op op_sub (pe_callB (r := rLen K) c_len (by rfl) T.z_len (by decide +kernel) (pa_cons (pv 1) pa_nil)) pe_int) set_list))
  pss_nil) pss_nil)
  (pss_cons (ps_ret (pv 1))
  pss_nil)))))))), ?_⟩
  intro a as _
  change BJ K _ [some (.own (as[0]?) (.lst (List.map eI a))), none, none, none, none, none, none, none] _ _ _ _ _
  refine fun g σ H D hA hm => x_asg ?_
  refine (ev_lst [] ea_nil) _ _ _ _ _ hA fun v H hA => ?_
  refine f_setlt (e := []) (fun t => .own none (.lst (List.map (eP3 eI eI eI) t))) hA (fun t j z => nomatch z) rfl hm (fun jobs_1 => ?_)
  change BJ K _ [some (.own (as[0]?) (.lst (List.map eI a))), some (.own none (.lst (List.map (eP3 eI eI eI) jobs_1))), none, none, none, none, none, none] _ _ _ _ _
  refine fun g σ H D hA hm => x_asg ?_
  refine x_op ?_
  refine ev_int _ _ _ _ _ hA fun v H hA => ?_
  refine x_call2 ?_
  refine (ev_own rfl) _ _ _ _ _ hA fun v H hA => ?_
  refine ev_int _ _ _ _ _ hA fun v H hA => ?_
  refine f_call [.o 0 (as[0]?) (.lst (List.map eI a)), .d (eI (6 : Int))] (a, (6 : Int)) (fun r => [.lst (List.map eI r.2)]) hA rfl rfl ⟨rfl, True.intro⟩ (fun as h => match as, h with | [_], _ => rfl) (fun _ => rfl) (fun r as h => match as, h with | [_], _ => rfl) (fun r j z => nomatch z) .nil (hm.bindR.imp (fun r2 hm v H hA => ?_) fun _ q => q)
  replace hA : At K g [some (.own (as[0]?) (.lst (List.map eI r2.2))), some (.own none (.lst (List.map (eP3 eI eI eI) jobs_1))), none, none, none, none, none, none] _ _ _ := hA
  refine o2_i0 _ _ _ _ _ _ _ hA fun v H hA => ?_
  refine f_setlt (e := ((1 : Int) + r2.1)) (fun t => .dat (eI t)) hA (fun t j z => nomatch z) rfl hm (fun period_3 => ?_)
  change BJ K _ [some (.own (as[0]?) (.lst (List.map eI r2.2))), some (.own none (.lst (List.map (eP3 eI eI eI) jobs_1))), some (.dat (eI period_3)), none, none, none, none, none] _ _ _ _ _
  refine fun g σ H D hA hm => ?_
  refine x_forR1 ?_
  refine x_op ?_
  refine ev_int _ _ _ _ _ hA fun v H hA => ?_
  refine x_call2 ?_
  refine (ev_own rfl) _ _ _ _ _ hA fun v H hA => ?_
  refine ev_int _ _ _ _ _ hA fun v H hA => ?_
  refine f_call [.o 0 (as[0]?) (.lst (List.map eI r2.2)), .d (eI (4 : Int))] (r2.2, (4 : Int)) (fun r => [.lst (List.map eI r.2)]) hA rfl rfl ⟨rfl, True.intro⟩ (fun as h => match as, h with | [_], _ => rfl) (fun _ => rfl) (fun r as h => match as, h with | [_], _ => rfl) (fun r j z => nomatch z) .nil (hm.bindR.imp (fun r4 hm v H hA => ?_) fun _ q => q)
  replace hA : At K g [some (.own (as[0]?) (.lst (List.map eI r4.2))), some (.own none (.lst (List.map (eP3 eI eI eI) jobs_1))), some (.dat (eI period_3)), none, none, none, none, none] _ _ _ := hA
  refine o2_i0 _ _ _ _ _ _ _ hA fun v H hA => ?_
  refine f_rng1 (b := ((1 : Int) + r4.1)) hA hm fun hm => f_for (e := eI) (fun (s6 : ((List Int) × (List (Int × Int × Int)) × Int)) => [some (.own (as[0]?) (.lst (List.map eI s6.1))), some (.own none (.lst (List.map (eP3 eI eI eI) s6.2.1))), some (.dat (eI s6.2.2)), none, none, none, none, none]) (s0 := (r4.2, jobs_1, period_3)) (.s (.s (.s (.d (.d (.d (.d (.d .nil)))))))) hm (hb_of (e := eI) (js := [3]) (ps := fun b7 => [eI b7]) (fun b => tj_name) (hjl (n := 8) (fun s => rfl) (by decide)) (fun s6 b7 => ?_)) (fun s6 => ?_)
  ·
    change BJ K _ [some (.own (as[0]?) (.lst (List.map eI s6.1))), some (.own none (.lst (List.map (eP3 eI eI eI) s6.2.1))), some (.dat (eI s6.2.2)), some (.dat (eI b7)), none, none, none, none] _ _ _ _ _
    refine fun g σ H D hA hm => x_asg ?_
    refine x_op ?_
    refine ev_int _ _ _ _ _ hA fun v H hA => ?_
    refine x_op ?_
    refine x_cb1 ?_
    refine x_call2 ?_
    refine (ev_own rfl) _ _ _ _ _ hA fun v H hA => ?_
    refine ev_int _ _ _ _ _ hA fun v H hA => ?_
    refine f_call [.o 0 (as[0]?) (.lst (List.map eI s6.1)), .d (eI (12 : Int))] (s6.1, (12 : Int)) (fun r => [.lst (List.map eI r.2)]) hA rfl rfl ⟨rfl, True.intro⟩ (fun as h => match as, h with | [_], _ => rfl) (fun _ => rfl) (fun r as h => match as, h with | [_], _ => rfl) (fun r j z => nomatch z) .nil (hm.bindR.imp (fun r8 hm v H hA => ?_) fun _ q => q)
    replace hA : At K g [some (.own (as[0]?) (.lst (List.map eI r8.2))), some (.own none (.lst (List.map (eP3 eI eI eI) s6.2.1))), some (.dat (eI s6.2.2)), some (.dat (eI b7)), none, none, none, none] _ _ _ := hA
    refine o1_int _ _ _ _ _ _ hA fun v H hA => ?_
    refine (ev_cb2 ev_int (ev_op (ev_var rfl) ev_int o2_divK) o2_max) _ _ _ _ _ hA fun v H hA => ?_
    refine f_o2m o2_mod hA hm fun t9 v H hA hm => ?_
    refine o2_i0 _ _ _ _ _ _ _ hA fun v H hA => ?_
    refine f_setlt (e := ((1 : Int) + t9)) (fun t => .dat (eI t)) hA (fun t j z => nomatch z) rfl hm (fun rungs_10 => ?_)
    change BJ K _ [some (.own (as[0]?) (.lst (List.map eI r8.2))), some (.own none (.lst (List.map (eP3 eI eI eI) s6.2.1))), some (.dat (eI s6.2.2)), some (.dat (eI b7)), none, none, some (.dat (eI rungs_10)), none] _ _ _ _ _
    refine fun g σ H D hA hm => x_drop ?_
    refine x_app rfl hA fun x H hA => ?_
    refine x_tup ?_
    refine x_cons ?_
    refine (ev_cb2 (ev_var rfl) ev_int o2_min) _ _ _ _ _ hA fun v H hA => ?_
    refine x_cons ?_
    refine (ev_var rfl) _ _ _ _ _ hA fun v H hA => ?_
    refine x_cons ?_
    refine x_call2 ?_
    refine (ev_own rfl) _ _ _ _ _ hA fun v H hA => ?_
    refine (ev_var rfl) _ _ _ _ _ hA fun v H hA => ?_
    refine f_call [.o 0 (as[0]?) (.lst (List.map eI r8.2)), .d (eI s6.2.2)] (r8.2, s6.2.2) (fun r => [.lst (List.map eI r.2)]) hA rfl rfl ⟨rfl, True.intro⟩ (fun as h => match as, h with | [_], _ => rfl) (fun _ => rfl) (fun r as h => match as, h with | [_], _ => rfl) (fun r j z => nomatch z) .nil (hm.bindR.imp (fun r11 hm v H hA => ?_) fun _ q => q)
    replace hA : At K g [some (.own (as[0]?) (.lst (List.map eI r11.2))), some (.own none (.lst (List.map (eP3 eI eI eI) s6.2.1))), some (.dat (eI s6.2.2)), some (.dat (eI b7)), none, none, some (.dat (eI rungs_10)), none] _ _ _ := hA
    refine x_nil ?_
    refine f_tup (vs := [_, _, _]) [eI (minI rungs_10 (12 : Int)), eI s6.2.2, eI r11.1] hA rfl (Nat.le_of_ble_eq_true rfl) fun v H hA => ?_
    refine f_appm (xs := s6.2.1) (e := (eP3 eI eI eI)) rfl hA hm fun ys12 H hA hm => ?_
    refine bj_go hA hm ?_
    change BJ K _ [some (.own (as[0]?) (.lst (List.map eI r11.2))), some (.own none (.lst (List.map (eP3 eI eI eI) ys12))), some (.dat (eI s6.2.2)), some (.dat (eI b7)), none, none, some (.dat (eI rungs_10)), none] _ _ _ _ _
    refine fun g σ H D hA hm => x_asg ?_
    refine x_op ?_
    refine (ev_var rfl) _ _ _ _ _ hA fun v H hA => ?_
    refine x_op ?_
    refine ev_int _ _ _ _ _ hA fun v H hA => ?_
    refine x_call2 ?_
    refine (ev_own rfl) _ _ _ _ _ hA fun v H hA => ?_
    refine ev_int _ _ _ _ _ hA fun v H hA => ?_
    refine f_call [.o 0 (as[0]?) (.lst (List.map eI r11.2)), .d (eI (3 : Int))] (r11.2, (3 : Int)) (fun r => [.lst (List.map eI r.2)]) hA rfl rfl ⟨rfl, True.intro⟩ (fun as h => match as, h with | [_], _ => rfl) (fun _ => rfl) (fun r as h => match as, h with | [_], _ => rfl) (fun r j z => nomatch z) .nil (hm.bindR.imp (fun r13 hm v H hA => ?_) fun _ q => q)
    replace hA : At K g [some (.own (as[0]?) (.lst (List.map eI r13.2))), some (.own none (.lst (List.map (eP3 eI eI eI) ys12))), some (.dat (eI s6.2.2)), some (.dat (eI b7)), none, none, some (.dat (eI rungs_10)), none] _ _ _ := hA
    refine o2_i0 _ _ _ _ _ _ _ hA fun v H hA => ?_
    refine f_o2m o2_mul hA hm fun t14 v H hA hm => ?_
    refine f_setgo hA (fun j z => nomatch z) rfl hm ?_
    change BJ K _ [some (.own (as[0]?) (.lst (List.map eI r13.2))), some (.own none (.lst (List.map (eP3 eI eI eI) ys12))), some (.dat (eI s6.2.2)), some (.dat (eI b7)), none, none, some (.dat (eI rungs_10)), some (.dat (eI t14))] _ _ _ _ _
    refine bj_ifL (evb_test (ev_op (ev_var rfl) ev_int o2_c0)) ?_ ?_
    ·
      refine bj_assoc ?_
      refine fun g σ H D hA hm => x_asg ?_
      refine (ev_var rfl) _ _ _ _ _ hA fun v H hA => ?_
      refine f_setgo hA (fun j z => nomatch z) rfl hm ?_
      change BJ K _ [some (.own (as[0]?) (.lst (List.map eI r13.2))), some (.own none (.lst (List.map (eP3 eI eI eI) ys12))), some (.dat (eI t14)), some (.dat (eI b7)), none, none, some (.dat (eI rungs_10)), some (.dat (eI t14))] _ _ _ _ _
      refine bj_pass ?_
      exact bj_nx (a := (r13.2, ys12, t14)) (.s (.s (.s (.d (.d (.d (.d (.d .nil))))))))
    ·
      refine bj_pass ?_
      exact bj_nx (a := (r13.2, ys12, s6.2.2)) (.s (.s (.s (.d (.d (.d (.d (.d .nil))))))))
  ·
    change BJ K _ [some (.own (as[0]?) (.lst (List.map eI s6.1))), some (.own none (.lst (List.map (eP3 eI eI eI) s6.2.1))), some (.dat (eI s6.2.2)), none, none, none, none, none] _ _ _ _ _
    refine fun g σ H D hA hm => x_asg ?_
    refine x_op ?_
    refine x_op ?_
    refine (ev_own rfl) _ _ _ _ _ hA fun v H hA => ?_
    refine (ev_op (ev_cb1 (ev_own rfl) (o1_lenT s6.2.1 (eP3 eI eI eI) (.l (.als rfl)))) ev_int o2_i0) _ _ _ _ _ hA fun v H hA => ?_
    refine f_o2m (o2_idxL (xs := s6.2.1) (e := (eP3 eI eI eI)) (.als rfl)) hA hm fun t15 v H hA hm => ?_
    refine ev_int _ _ _ _ _ hA fun v H hA => ?_
    refine (o2_ixK (p := eI t15.2.1) rfl) _ _ _ _ _ _ _ hA fun v H hA => ?_
    refine f_setgo hA (fun j z => nomatch z) rfl hm ?_
    change BJ K _ [some (.own (as[0]?) (.lst (List.map eI s6.1))), some (.own none (.lst (List.map (eP3 eI eI eI) s6.2.1))), some (.dat (eI s6.2.2)), none, some (.dat (eI t15.2.1)), none, none, none] _ _ _ _ _
    refine fun g σ H D hA hm => ?_
    refine x_forL ?_
    refine (ev_slice (ev_own rfl) evo_none (evo_some (ev_op (ev_cb1 (ev_own rfl) (o1_lenT s6.2.1 (eP3 eI eI eI) (.l (.als rfl)))) ev_int o2_i0)) (o1_cutLT (xs := s6.2.1) (e := (eP3 eI eI eI)) (.als rfl))) _ _ _ _ _ hA fun v H hA => ?_
    replace hA := hA.frz
    refine wk_list (xs := (cutL s6.2.1 none (some (((s6.2.1).length : Int) - (1 : Int))))) (e := (eP3 eI eI eI)) hA (f_for (e := (eP3 eI eI eI)) (fun (s16 : Int) => [some (.own (as[0]?) (.lst (List.map eI s6.1))), some (.own none (.lst (List.map (eP3 eI eI eI) s6.2.1))), none, none, some (.dat (eI s16)), none, none, none]) (s0 := t15.2.1) (.s (.s (.d (.d (.s (.d (.d (.d .nil)))))))) hm (hb_of (e := (eP3 eI eI eI)) (js := [5]) (ps := fun b17 => [(eP3 eI eI eI) b17]) (fun b => tj_name) (hjl (n := 8) (fun s => rfl) (by decide)) (fun s16 b17 => ?_)) (fun s16 => ?_))
    ·
      change BJ K _ [some (.own (as[0]?) (.lst (List.map eI s6.1))), some (.own none (.lst (List.map (eP3 eI eI eI) s6.2.1))), none, none, some (.dat (eI s16)), some (.dat ((eP3 eI eI eI) b17)), none, none] _ _ _ _ _
      refine fun g σ H D hA hm => x_asg ?_
      refine x_op ?_
      refine (ev_var rfl) _ _ _ _ _ hA fun v H hA => ?_
      refine x_op ?_
      refine (ev_op (ev_var rfl) ev_int (o2_ixK (p := eI b17.1))) _ _ _ _ _ hA fun v H hA => ?_
      refine x_op ?_
      refine x_op ?_
      refine x_op ?_
      refine (ev_own rfl) _ _ _ _ _ hA fun v H hA => ?_
      refine (ev_op (ev_cb1 (ev_own rfl) (o1_lenT s6.2.1 (eP3 eI eI eI) (.l (.als rfl)))) ev_int o2_i0) _ _ _ _ _ hA fun v H hA => ?_
      refine f_o2m (o2_idxL (xs := s6.2.1) (e := (eP3 eI eI eI)) (.als rfl)) hA hm fun t18 v H hA hm => ?_
      refine ev_int _ _ _ _ _ hA fun v H hA => ?_
      refine (o2_ixK (p := eI t18.2.1) rfl) _ _ _ _ _ _ _ hA fun v H hA => ?_
      refine (ev_op (ev_var rfl) ev_int (o2_ixK (p := eI b17.2.1))) _ _ _ _ _ hA fun v H hA => ?_
      refine f_o2m o2_div hA hm fun t19 v H hA hm => ?_
      refine f_o2m o2_mul hA hm fun t20 v H hA hm => ?_
      refine o2_i0 _ _ _ _ _ _ _ hA fun v H hA => ?_
      refine f_setlt (e := (s16 - t20)) (fun t => .dat (eI t)) hA (fun t j z => nomatch z) rfl hm (fun left_21 => ?_)
      change BJ K _ [some (.own (as[0]?) (.lst (List.map eI s6.1))), some (.own none (.lst (List.map (eP3 eI eI eI) s6.2.1))), none, none, some (.dat (eI left_21)), some (.dat ((eP3 eI eI eI) b17)), none, none] _ _ _ _ _
      exact bj_nx (a := left_21) (.s (.s (.d (.d (.s (.d (.d (.d .nil))))))))
    ·
      change BJ K _ [some (.own (as[0]?) (.lst (List.map eI s6.1))), some (.own none (.lst (List.map (eP3 eI eI eI) s6.2.1))), none, none, some (.dat (eI s16)), none, none, none] _ _ _ _ _
      refine fun g σ H D hA hm => x_asg ?_
      refine x_op ?_
      refine (ev_var rfl) _ _ _ _ _ hA fun v H hA => ?_
      refine x_op ?_
      refine (ev_lst [eI (0 : Int), eI (1 : Int), eI (-(1 : Int)), eI (0 : Int)] (ea_cons ev_int (ea_cons ev_int (ea_cons (ev_un ev_int o1_neg) (ea_cons ev_int ea_nil))))) _ _ _ _ _ hA fun v H hA => ?_
      refine x_call2 ?_
      refine (ev_own rfl) _ _ _ _ _ hA fun v H hA => ?_
      refine ev_int _ _ _ _ _ hA fun v H hA => ?_
      refine f_call [.o 0 (as[0]?) (.lst (List.map eI s6.1)), .d (eI (4 : Int))] (s6.1, (4 : Int)) (fun r => [.lst (List.map eI r.2)]) hA rfl rfl ⟨rfl, True.intro⟩ (fun as h => match as, h with | [_], _ => rfl) (fun _ => rfl) (fun r as h => match as, h with | [_], _ => rfl) (fun r j z => nomatch z) .nil (hm.bindR.imp (fun r22 hm v H hA => ?_) fun _ q => q)
      replace hA : At K g [some (.own (as[0]?) (.lst (List.map eI r22.2))), some (.own none (.lst (List.map (eP3 eI eI eI) s6.2.1))), none, none, some (.dat (eI s16)), none, none, none] _ _ _ := hA
      refine f_o2m (o2_idxL (xs := [(0 : Int), (1 : Int), (-(1 : Int)), (0 : Int)]) (e := eI) .own) hA hm fun t23 v H hA hm => ?_
      refine o2_i0 _ _ _ _ _ _ _ hA fun v H hA => ?_
      refine f_setlt (e := (s16 + t23)) (fun t => .dat (eI t)) hA (fun t j z => nomatch z) rfl hm (fun rungs_24 => ?_)
      change BJ K _ [some (.own (as[0]?) (.lst (List.map eI r22.2))), some (.own none (.lst (List.map (eP3 eI eI eI) s6.2.1))), none, none, some (.dat (eI s16)), none, some (.dat (eI rungs_24)), none] _ _ _ _ _
      refine bj_seq (n1 := fun (s25 : (List (Int × Int × Int))) => [some (.own (as[0]?) (.lst (List.map eI r22.2))), some (.own none (.lst (List.map (eP3 eI eI eI) s25))), none, none, none, none, none, none]) ?_ (fun s25 => ?_)
      ·
        refine bj_if (evb_test (ev_chain ev_int (ev_var rfl) ev_int)) ?_ ?_
        ·
          refine fun g σ H D hA hm => x_asg ?_
          refine x_tup ?_
          refine x_cons ?_
          refine (ev_var rfl) _ _ _ _ _ hA fun v H hA => ?_
          refine x_cons ?_
          refine x_op ?_
          refine x_op ?_
          refine (ev_own rfl) _ _ _ _ _ hA fun v H hA => ?_
          refine (ev_op (ev_cb1 (ev_own rfl) (o1_lenT s6.2.1 (eP3 eI eI eI) (.l (.als rfl)))) ev_int o2_i0) _ _ _ _ _ hA fun v H hA => ?_
          refine f_o2m (o2_idxL (xs := s6.2.1) (e := (eP3 eI eI eI)) (.als rfl)) hA hm fun t26 v H hA hm => ?_
          refine ev_int _ _ _ _ _ hA fun v H hA => ?_
          refine (o2_ixK (p := eI t26.2.1) rfl) _ _ _ _ _ _ _ hA fun v H hA => ?_
          refine x_cons ?_
          refine x_op ?_
          refine x_op ?_
          refine (ev_own rfl) _ _ _ _ _ hA fun v H hA => ?_
          refine (ev_op (ev_cb1 (ev_own rfl) (o1_lenT s6.2.1 (eP3 eI eI eI) (.l (.als rfl)))) ev_int o2_i0) _ _ _ _ _ hA fun v H hA => ?_
          refine f_o2m (o2_idxL (xs := s6.2.1) (e := (eP3 eI eI eI)) (.als rfl)) hA hm fun t27 v H hA hm => ?_
          refine ev_int _ _ _ _ _ hA fun v H hA => ?_
          refine (o2_ixK (p := eI t27.2.2) rfl) _ _ _ _ _ _ _ hA fun v H hA => ?_
          refine x_nil ?_
          refine f_tup (vs := [_, _, _]) [eI rungs_24, eI t26.2.1, eI t27.2.2] hA rfl (Nat.le_of_ble_eq_true rfl) fun v H hA => ?_
          refine x_gsub ?_
          refine (ev_own rfl) _ _ _ _ _ hA fun v H hA => ?_
          refine (ev_op (ev_cb1 (ev_own rfl) (o1_lenT s6.2.1 (eP3 eI eI eI) (.l (.als rfl)))) ev_int o2_i0) _ _ _ _ _ hA fun v H hA => ?_
          refine f_setm (xs := s6.2.1) (e := (eP3 eI eI eI)) rfl hA hm fun ys28 H hA hm => ?_
          refine bj_go hA hm ?_
          change BJ K _ [some (.own (as[0]?) (.lst (List.map eI r22.2))), some (.own none (.lst (List.map (eP3 eI eI eI) ys28))), none, none, some (.dat (eI s16)), none, some (.dat (eI rungs_24)), none] _ _ _ _ _
          exact bj_nx (a := ys28) (.s (.s (.d (.d (.d (.d (.d (.d .nil))))))))
        ·
          exact bj_nx (a := s6.2.1) (.s (.s (.d (.d (.d (.d (.d (.d .nil))))))))
      ·
        change BJ K _ [some (.own (as[0]?) (.lst (List.map eI r22.2))), some (.own none (.lst (List.map (eP3 eI eI eI) s25))), none, none, none, none, none, none] _ _ _ _ _
        refine bj_frz (i := 1) rfl ?_
        change BJ K _ [some (.own (as[0]?) (.lst (List.map eI r22.2))), some (.dat ((eL (eP3 eI eI eI)) s25)), none, none, none, none, none, none] _ _ _ _ _
        refine fun g σ H D hA hm => x_ret ?_
        refine (ev_var rfl) _ _ _ _ _ hA fun v H hA => ?_
        exact hm v H _ (hA.weak1 (.s .nil) fun j z => nomatch z)
theorem ok_law_lowest (T : Txt K mg Z) : FnOk P w K mg base (L2.CX P w) 1 Z.f_law_lowest Z.d_law_lowest ["n", "d"] (Spec K Z.ec 2 pre_law_lowest f_law_lowest post_law_lowest ret_law_lowest) := by
  refine fn_ok T.d_law_lowest.F sc_law_lowest rfl m_law_lowest fun cdv A outer s H E hr => ?_
  refine ⟨_, (pss_cons (ps_set (i := 2) sc_law_lowest.nd rfl (Or.inl rfl) (pv 0))
  (pss_cons (ps_set (i := 3) sc_law_lowest.nd rfl (Or.inl rfl) (pv 1))
  (pss_cons (ps_for (passes_of rfl) rfl (pi_range1 (by rfl) T.z_range (pa_cons pe_int pa_nil)) (pg_name (i := 4) sc_law_lowest.nd rfl (Or.inl rfl)) (pss_cons (ps_if (pt_cmpR op_gt (pv 3) pe_int (nomark _)) (pss_cons (ps_set (i := 5) sc_law_lowest.nd rfl (Or.inl rfl) (pe_op op_mod (pe_callTy c_int (by rfl) T.z_int (by decide +kernel) (pa_cons (pv 2) pa_nil)) (pv 3)))
  (pss_cons (ps_set (i := 2) sc_law_lowest.nd rfl (Or.inl rfl) (pv 3))
  (pss_cons (ps_set (i := 3) sc_law_lowest.nd rfl (Or.inl rfl) (pv 5))
  pss_nil))) pss_nil)
  pss_nil))
  (pss_cons (ps_ret (pe_tup (pa_cons (pe_op op_fdiv (pv 0) (pv 2)) (pa_cons (pe_op op_fdiv (pv 1) (pv 2)) pa_nil))))
  pss_nil)))), ?_⟩
  intro a as _
  change BJ K _ [some (.dat (eI a.1)), some (.dat (eI a.2)), none, none, none, none] _ _ _ _ _
  refine fun g σ H D hA hm => x_asg ?_
  refine (ev_var rfl) _ _ _ _ _ hA fun v H hA => ?_
  refine f_setgo hA (fun j z => nomatch z) rfl hm ?_
  change BJ K _ [some (.dat (eI a.1)), some (.dat (eI a.2)), some (.dat (eI a.1)), none, none, none] _ _ _ _ _
  refine fun g σ H D hA hm => x_asg ?_
  refine (ev_var rfl) _ _ _ _ _ hA fun v H hA => ?_
  refine f_setgo hA (fun j z => nomatch z) rfl hm ?_
  change BJ K _ [some (.dat (eI a.1)), some (.dat (eI a.2)), some (.dat (eI a.1)), some (.dat (eI a.2)), none, none] _ _ _ _ _
  refine fun g σ H D hA hm => ?_
  refine x_forR1 ?_
  refine ev_int _ _ _ _ _ hA fun v H hA => ?_
  refine f_rng1 (b := (100 : Int)) hA hm fun hm => f_for (e := eI) (fun (s2 : (Int × Int)) => [some (.dat (eI a.1)), some (.dat (eI a.2)), some (.dat (eI s2.1)), some (.dat (eI s2.2)), none, none]) (s0 := (a.1, a.2)) (.s (.s (.s (.s (.d (.d .nil)))))) hm (hb_of (e := eI) (js := [4]) (ps := fun b3 => [eI b3]) (fun b => tj_name) (hjl (n := 6) (fun s => rfl) (by decide)) (fun s2 b3 => ?_)) (fun s2 => ?_)
  ·
    change BJ K _ [some (.dat (eI a.1)), some (.dat (eI a.2)), some (.dat (eI s2.1)), some (.dat (eI s2.2)), some (.dat (eI b3)), none] _ _ _ _ _
    refine bj_ifL (evb_test (ev_op (ev_var rfl) ev_int o2_c0)) ?_ ?_
    ·
      refine bj_assoc ?_
      refine fun g σ H D hA hm => x_asg ?_
      refine x_op ?_
      refine (ev_cb1 (ev_var rfl) o1_int) _ _ _ _ _ hA fun v H hA => ?_
      refine (ev_var rfl) _ _ _ _ _ hA fun v H hA => ?_
      refine f_o2m o2_mod hA hm fun t4 v H hA hm => ?_
      refine f_setgo hA (fun j z => nomatch z) rfl hm ?_
      change BJ K _ [some (.dat (eI a.1)), some (.dat (eI a.2)), some (.dat (eI s2.1)), some (.dat (eI s2.2)), some (.dat (eI b3)), some (.dat (eI t4))] _ _ _ _ _
      refine bj_assoc ?_
      refine fun g σ H D hA hm => x_asg ?_
      refine (ev_var rfl) _ _ _ _ _ hA fun v H hA => ?_
      refine f_setgo hA (fun j z => nomatch z) rfl hm ?_
      change BJ K _ [some (.dat (eI a.1)), some (.dat (eI a.2)), some (.dat (eI s2.2)), some (.dat (eI s2.2)), some (.dat (eI b3)), some (.dat (eI t4))] _ _ _ _ _
      refine bj_assoc ?_
      refine fun g σ H D hA hm => x_asg ?_
      refine (ev_var rfl) _ _ _ _ _ hA fun v H hA => ?_
      refine f_setgo hA (fun j z => nomatch z) rfl hm ?_
      change BJ K _ [some (.dat (eI a.1)), some (.dat (eI a.2)), some (.dat (eI s2.2)), some (.dat (eI t4)), some (.dat (eI b3)), some (.dat (eI t4))] _ _ _ _ _
      refine bj_pass ?_
      exact bj_nx (a := (s2.2, t4)) (.s (.s (.s (.s (.d (.d .nil))))))
    ·
      refine bj_pass ?_
      exact bj_nx (a := (s2.1, s2.2)) (.s (.s (.s (.s (.d (.d .nil))))))
  ·
    change BJ K _ [some (.dat (eI a.1)), some (.dat (eI a.2)), some (.dat (eI s2.1)), some (.dat (eI s2.2)), none, none] _ _ _ _ _
    refine fun g σ H D hA hm => x_ret ?_
    refine x_tup ?_
    refine x_cons ?_
    refine x_op ?_
    refine (ev_var rfl) _ _ _ _ _ hA fun v H hA => ?_
    refine (ev_var rfl) _ _ _ _ _ hA fun v H hA => ?_
    refine f_o2m o2_div hA hm fun t5 v H hA hm => ?_
    refine x_cons ?_
    refine x_op ?_
    refine (ev_var rfl) _ _ _ _ _ hA fun v H hA => ?_
    refine (ev_var rfl) _ _ _ _ _ hA fun v H hA => ?_
    refine f_o2m o2_div hA hm fun t6 v H hA hm => ?_
    refine x_nil ?_
    refine f_tup (vs := [_, _]) [eI t5, eI t6] hA rfl (Nat.le_of_ble_eq_true rfl) fun v H hA => ?_
    exact hm v H _ (hA.weak1 (.d (.d .nil)) fun j z => nomatch z)
theorem ok_law_load (T : Txt K mg Z) : FnOk P w K mg base (L2.CX P w) 2 Z.f_law_load Z.d_law_load ["jobs"] (Spec K Z.ec 1 pre_law_load f_law_load post_law_load ret_law_load) := by
  refine fn_ok T.d_law_load.F sc_law_load rfl m_law_load fun cdv A outer s H E hr => ?_
  refine ⟨_, (pss_cons (ps_set (i := 1) sc_law_load.nd rfl (Or.inl rfl) pe_int)
  (pss_cons (ps_set (i := 2) sc_law_load.nd rfl (Or.inl rfl) pe_int)
  (pss_cons (ps_for (passes_of rfl) rfl (pi_tup (pv 0)) (pg_name (i := 3) sc_law_load.nd rfl (Or.inl rfl)) (pss_cons (ps_set (i := 1) sc_law_load.nd rfl (Or.inl rfl) (pe_op op_add (pe_op op_mul (pv 1) (pe_ix (r := rIxT K) ix_tup (pv 3) pe_int (fun _ _ => rfl))) (pe_op op_mul (pe_ix (r := rIxT K) ix_tup (pv 3) pe_int (fun _ _ => rfl)) (pv 2))))
  (pss_cons (ps_set (i := 2) sc_law_load.nd rfl (Or.inl rfl) (pe_op op_mul (pv 2) (pe_ix (r := rIxT K) ix_tup (pv 3) pe_int (fun _ _ => rfl))))
  pss_nil)))
  (pss_cons (ps_ret (pe_callS (ok_law_lowest T) (hr.mono (by decide)) (by rfl) T.d_law_lowest.g T.d_law_lowest.F.kp T.d_law_lowest.b (fun σ => passAt (takes_of rfl rfl rfl rfl) σ) (pa_cons (pv 1) (pa_cons (pv 2) pa_nil))))
  pss_nil)))), ?_⟩
  intro a as _
  change BJ K _ [some (.dat ((eT (eP3 eI eI eI)) a)), none, none, none] _ _ _ _ _
  refine fun g σ H D hA hm => x_asg ?_
  refine ev_int _ _ _ _ _ hA fun v H hA => ?_
  refine f_setlt (e := (0 : Int)) (fun t => .dat (eI t)) hA (fun t j z => nomatch z) rfl hm (fun n_1 => ?_)
  change BJ K _ [some (.dat ((eT (eP3 eI eI eI)) a)), some (.dat (eI n_1)), none, none] _ _ _ _ _
  refine fun g σ H D hA hm => x_asg ?_
  refine ev_int _ _ _ _ _ hA fun v H hA => ?_
  refine f_setlt (e := (1 : Int)) (fun t => .dat (eI t)) hA (fun t j z => nomatch z) rfl hm (fun d_2 => ?_)
  change BJ K _ [some (.dat ((eT (eP3 eI eI eI)) a)), some (.dat (eI n_1)), some (.dat (eI d_2)), none] _ _ _ _ _
  refine fun g σ H D hA hm => ?_
  refine x_forT ?_
  refine (ev_var rfl) _ _ _ _ _ hA fun v H hA => ?_
  refine wk_tup (xs := a) (e := (eP3 eI eI eI)) hA (f_for (e := (eP3 eI eI eI)) (fun (s3 : (Int × Int)) => [none, some (.dat (eI s3.1)), some (.dat (eI s3.2)), none]) (s0 := (n_1, d_2)) (.d (.s (.s (.d .nil)))) hm (hb_of (e := (eP3 eI eI eI)) (js := [3]) (ps := fun b4 => [(eP3 eI eI eI) b4]) (fun b => tj_name) (hjl (n := 4) (fun s => rfl) (by decide)) (fun s3 b4 => ?_)) (fun s3 => ?_))
  ·
    change BJ K _ [none, some (.dat (eI s3.1)), some (.dat (eI s3.2)), some (.dat ((eP3 eI eI eI) b4))] _ _ _ _ _
    refine fun g σ H D hA hm => x_asg ?_
    refine x_op ?_
    refine x_op ?_
    refine (ev_var rfl) _ _ _ _ _ hA fun v H hA => ?_
    refine (ev_op (ev_var rfl) ev_int (o2_ixK (p := eI b4.2.1))) _ _ _ _ _ hA fun v H hA => ?_
    refine f_o2m o2_mul hA hm fun t5 v H hA hm => ?_
    refine x_op ?_
    refine (ev_op (ev_var rfl) ev_int (o2_ixK (p := eI b4.1))) _ _ _ _ _ hA fun v H hA => ?_
    refine (ev_var rfl) _ _ _ _ _ hA fun v H hA => ?_
    refine f_o2m o2_mul hA hm fun t6 v H hA hm => ?_
    refine o2_i0 _ _ _ _ _ _ _ hA fun v H hA => ?_
    refine f_setlt (e := (t5 + t6)) (fun t => .dat (eI t)) hA (fun t j z => nomatch z) rfl hm (fun n_7 => ?_)
    change BJ K _ [none, some (.dat (eI n_7)), some (.dat (eI s3.2)), some (.dat ((eP3 eI eI eI) b4))] _ _ _ _ _
    refine fun g σ H D hA hm => x_asg ?_
    refine x_op ?_
    refine (ev_var rfl) _ _ _ _ _ hA fun v H hA => ?_
    refine (ev_op (ev_var rfl) ev_int (o2_ixK (p := eI b4.2.1))) _ _ _ _ _ hA fun v H hA => ?_
    refine f_o2m o2_mul hA hm fun t8 v H hA hm => ?_
    refine f_setgo hA (fun j z => nomatch z) rfl hm ?_
    change BJ K _ [none, some (.dat (eI n_7)), some (.dat (eI t8)), some (.dat ((eP3 eI eI eI) b4))] _ _ _ _ _
    exact bj_nx (a := (n_7, t8)) (.d (.s (.s (.d .nil))))
  ·
    change BJ K _ [none, some (.dat (eI s3.1)), some (.dat (eI s3.2)), none] _ _ _ _ _
    refine fun g σ H D hA hm => x_ret ?_
    refine x_call2 ?_
    refine (ev_var rfl) _ _ _ _ _ hA fun v H hA => ?_
    refine (ev_var rfl) _ _ _ _ _ hA fun v H hA => ?_
    refine f_call [.d (eI s3.1), .d (eI s3.2)] (s3.1, s3.2) (fun r => []) hA rfl rfl True.intro (fun as h => match as, h with | [], _ => rfl) (fun _ => rfl) (fun r as h => match as, h with | [], _ => rfl) (fun r j z => nomatch z) .nil (hm.bindR.imp (fun r9 hm v H hA => ?_) fun _ q => q)
    exact hm v H _ (hA.weak1 (.d .nil) fun j z => nomatch z)
theorem ok_law_well (T : Txt K mg Z) : FnOk P w K mg base (L2.CX P w) 1 Z.f_law_well Z.d_law_well ["jobs"] (Spec K Z.ec 1 pre_law_well f_law_well post_law_well ret_law_well) := by
  refine fn_ok T.d_law_well.F sc_law_well rfl m_law_well fun cdv A outer s H E hr => ?_
  refine ⟨_, (pss_cons (ps_for (passes_of rfl) rfl (pi_range1 (by rfl) T.z_range (pa_cons (pe_callB (r := rLen K) c_len (by rfl) T.z_len (by decide +kernel) (pa_cons (pv 0) pa_nil)) pa_nil)) (pg_name (i := 1) sc_law_well.nd rfl (Or.inl rfl)) (pss_cons (ps_set (i := 2) sc_law_well.nd rfl (Or.inl rfl) (pe_ix (r := rIxT K) ix_tup (pe_ix (r := rIxT K) ix_tup (pv 0) (pv 1) (fun _ _ => rfl)) pe_int (fun _ _ => rfl)))
  (pss_cons (ps_set (i := 3) sc_law_well.nd rfl (Or.inl rfl) pe_bl)
  (pss_cons (ps_for (passes_of rfl) rfl (pi_range1 (by rfl) T.z_range (pa_cons pe_int pa_nil)) (pg_name (i := 4) sc_law_well.nd rfl (Or.inl rfl)) (pss_cons (ps_if (pw_and (pt_not (pt_val (pv 3))) (pw_and1 (pt_cmpR op_le (pv 2) (pe_ix (r := rIxT K) ix_tup (pe_ix (r := rIxT K) ix_tup (pv 0) (pv 1) (fun _ _ => rfl)) pe_int (fun _ _ => rfl)) (nomark _)))).pt (pss_cons (ps_set (i := 5) sc_law_well.nd rfl (Or.inl rfl) (pe_ix (r := rIxT K) ix_tup (pe_ix (r := rIxT K) ix_tup (pv 0) (pv 1) (fun _ _ => rfl)) pe_int (fun _ _ => rfl)))
  (pss_cons (ps_for (passes_of rfl) rfl (pi_range1 (by rfl) T.z_range (pa_cons (pv 1) pa_nil)) (pg_name (i := 6) sc_law_well.nd rfl (Or.inl rfl)) (pss_cons (ps_set (i := 5) sc_law_well.nd rfl (Or.inl rfl) (pe_op op_add (pv 5) (pe_op op_mul (pe_ix (r := rIxT K) ix_tup (pe_ix (r := rIxT K) ix_tup (pv 0) (pv 6) (fun _ _ => rfl)) pe_int (fun _ _ => rfl)) (pe_callTy c_int (by rfl) T.z_int (by decide +kernel) (pa_cons (pe_op op_fdiv (pe_op op_sub (pe_op op_add (pv 2) (pe_ix (r := rIxT K) ix_tup (pe_ix (r := rIxT K) ix_tup (pv 0) (pv 6) (fun _ _ => rfl)) pe_int (fun _ _ => rfl))) pe_int) (pe_ix (r := rIxT K) ix_tup (pe_ix (r := rIxT K) ix_tup (pv 0) (pv 6) (fun _ _ => rfl)) pe_int (fun _ _ => rfl))) pa_nil)))))
  pss_nil))
  (pss_cons (ps_set (i := 3) sc_law_well.nd rfl (Or.inl rfl) (pe_cmpR op_eq (pv 5) (pv 2) (nomark _)))
  (pss_cons (ps_set (i := 2) sc_law_well.nd rfl (Or.inl rfl) (pv 5))
  pss_nil)))) pss_nil)
  pss_nil))
  (pss_cons (ps_if (pt_not (pt_val (pv 3))) (pss_cons (ps_ret pe_bl)
  pss_nil) pss_nil)
  pss_nil)))))
  (pss_cons (ps_ret pe_bl)
  pss_nil)), ?_⟩
  intro a as _
  change BJ K _ [some (.dat ((eT (eP3 eI eI eI)) a)), none, none, none, none, none, none] _ _ _ _ _
  refine fun g σ H D hA hm => ?_
  refine x_forR1 ?_
  refine (ev_cb1 (ev_var rfl) (o1_lenT a (eP3 eI eI eI) .t)) _ _ _ _ _ hA fun v H hA => ?_
  refine f_rng1 (b := ((a).length : Int)) hA hm fun hm => f_for (e := eI) (fun (s2 : Unit) => [some (.dat ((eT (eP3 eI eI eI)) a)), none, none, none, none, none, none]) (s0 := ()) (.s (.d (.d (.d (.d (.d (.d .nil))))))) hm (hb_of (e := eI) (js := [1]) (ps := fun b3 => [eI b3]) (fun b => tj_name) (hjl (n := 7) (fun s => rfl) (by decide)) (fun s2 b3 => ?_)) (fun s2 => ?_)
  ·
    change BJ K _ [some (.dat ((eT (eP3 eI eI eI)) a)), some (.dat (eI b3)), none, none, none, none, none] _ _ _ _ _
    refine fun g σ H D hA hm => x_asg ?_
    refine x_op ?_
    refine x_op ?_
    refine (ev_var rfl) _ _ _ _ _ hA fun v H hA => ?_
    refine (ev_var rfl) _ _ _ _ _ hA fun v H hA => ?_
    refine f_o2m (o2_idxT (xs := a) (e := (eP3 eI eI eI))) hA hm fun t4 v H hA hm => ?_
    refine ev_int _ _ _ _ _ hA fun v H hA => ?_
    refine (o2_ixK (p := eI t4.1) rfl) _ _ _ _ _ _ _ hA fun v H hA => ?_
    refine f_setgo hA (fun j z => nomatch z) rfl hm ?_
    change BJ K _ [some (.dat ((eT (eP3 eI eI eI)) a)), some (.dat (eI b3)), some (.dat (eI t4.1)), none, none, none, none] _ _ _ _ _
    refine fun g σ H D hA hm => x_asg ?_
    refine ev_bl _ _ _ _ _ hA fun v H hA => ?_
    refine f_setgo hA (fun j z => nomatch z) rfl hm ?_
    change BJ K _ [some (.dat ((eT (eP3 eI eI eI)) a)), some (.dat (eI b3)), some (.dat (eI t4.1)), some (.dat (eB false)), none, none, none] _ _ _ _ _
    refine fun g σ H D hA hm => ?_
    refine x_forR1 ?_
    refine ev_int _ _ _ _ _ hA fun v H hA => ?_
    refine f_rng1 (b := (60 : Int)) hA hm fun hm => f_for (e := eI) (fun (s6 : (Int × Bool)) => [some (.dat ((eT (eP3 eI eI eI)) a)), some (.dat (eI b3)), some (.dat (eI s6.1)), some (.dat (eB s6.2)), none, none, none]) (s0 := (t4.1, false)) (.s (.s (.s (.s (.d (.d (.d .nil))))))) hm (hb_of (e := eI) (js := [4]) (ps := fun b7 => [eI b7]) (fun b => tj_name) (hjl (n := 7) (fun s => rfl) (by decide)) (fun s6 b7 => ?_)) (fun s6 => ?_)
    ·
      change BJ K _ [some (.dat ((eT (eP3 eI eI eI)) a)), some (.dat (eI b3)), some (.dat (eI s6.1)), some (.dat (eB s6.2)), some (.dat (eI b7)), none, none] _ _ _ _ _
      refine fun g σ H D hA hm => x_ifS ?_
      refine f_joinT (fun (s : Bool) => [some (.dat ((eT (eP3 eI eI eI)) a)), some (.dat (eI b3)), some (.dat (eI s6.1)), some (.dat (eB s6.2)), some (.dat (eI b7)), none, none]) (fun s => s) hA hm (fun hm => ?_) (fun j8 H hA hm => ?_)
      ·
        refine x_andT ?_
        refine (evb_not (evb_B (ev_var rfl))) _ _ _ _ _ hA fun H hA => ?_
        refine f_pick hm (fun hm => ?_) (fun hm => ?_)
        ·
          refine x_test ?_
          refine x_op ?_
          refine (ev_var rfl) _ _ _ _ _ hA fun v H hA => ?_
          refine x_op ?_
          refine x_op ?_
          refine (ev_var rfl) _ _ _ _ _ hA fun v H hA => ?_
          refine (ev_var rfl) _ _ _ _ _ hA fun v H hA => ?_
          refine f_o2m (o2_idxT (xs := a) (e := (eP3 eI eI eI))) hA hm fun t9 v H hA hm => ?_
          refine ev_int _ _ _ _ _ hA fun v H hA => ?_
          refine (o2_ixK (p := eI t9.2.1) rfl) _ _ _ _ _ _ _ hA fun v H hA => ?_
          refine o2_c0 _ _ _ _ _ _ _ hA fun v H hA => ?_
          refine f_tst (P := fun c H1 => _) hA fun hA => ?_
          exact hm H hA
        ·
          exact hm H hA
      ·
        replace hA : At K g [some (.dat ((eT (eP3 eI eI eI)) a)), some (.dat (eI b3)), some (.dat (eI s6.1)), some (.dat (eB s6.2)), some (.dat (eI b7)), none, none] _ _ _ := hA
        refine f_ifS hm (fun hm => ?_) (fun hm => ?_)
        ·
          refine bj_go hA hm ?_
          change BJ K _ [some (.dat ((eT (eP3 eI eI eI)) a)), some (.dat (eI b3)), some (.dat (eI s6.1)), some (.dat (eB s6.2)), some (.dat (eI b7)), none, none] _ _ _ _ _
          refine bj_assoc ?_
          refine fun g σ H D hA hm => x_asg ?_
          refine x_op ?_
          refine x_op ?_
          refine (ev_var rfl) _ _ _ _ _ hA fun v H hA => ?_
          refine (ev_var rfl) _ _ _ _ _ hA fun v H hA => ?_
          refine f_o2m (o2_idxT (xs := a) (e := (eP3 eI eI eI))) hA hm fun t10 v H hA hm => ?_
          refine ev_int _ _ _ _ _ hA fun v H hA => ?_
          refine (o2_ixK (p := eI t10.1) rfl) _ _ _ _ _ _ _ hA fun v H hA => ?_
          refine f_setgo hA (fun j z => nomatch z) rfl hm ?_
          change BJ K _ [some (.dat ((eT (eP3 eI eI eI)) a)), some (.dat (eI b3)), some (.dat (eI s6.1)), some (.dat (eB s6.2)), some (.dat (eI b7)), some (.dat (eI t10.1)), none] _ _ _ _ _
          refine bj_assoc ?_
          refine fun g σ H D hA hm => ?_
          refine x_forR1 ?_
          refine (ev_var rfl) _ _ _ _ _ hA fun v H hA => ?_
          refine f_rng1 (b := b3) hA hm fun hm => f_for (e := eI) (fun (s12 : Int) => [some (.dat ((eT (eP3 eI eI eI)) a)), some (.dat (eI b3)), some (.dat (eI s6.1)), none, none, some (.dat (eI s12)), none]) (s0 := t10.1) (.s (.s (.s (.d (.d (.s (.d .nil))))))) hm (hb_of (e := eI) (js := [6]) (ps := fun b13 => [eI b13]) (fun b => tj_name) (hjl (n := 7) (fun s => rfl) (by decide)) (fun s12 b13 => ?_)) (fun s12 => ?_)
          ·
            change BJ K _ [some (.dat ((eT (eP3 eI eI eI)) a)), some (.dat (eI b3)), some (.dat (eI s6.1)), none, none, some (.dat (eI s12)), some (.dat (eI b13))] _ _ _ _ _
            refine fun g σ H D hA hm => x_asg ?_
            refine x_op ?_
            refine (ev_var rfl) _ _ _ _ _ hA fun v H hA => ?_
            refine x_op ?_
            refine x_op ?_
            refine x_op ?_
            refine (ev_var rfl) _ _ _ _ _ hA fun v H hA => ?_
            refine (ev_var rfl) _ _ _ _ _ hA fun v H hA => ?_
            refine f_o2m (o2_idxT (xs := a) (e := (eP3 eI eI eI))) hA hm fun t14 v H hA hm => ?_
            refine ev_int _ _ _ _ _ hA fun v H hA => ?_
            refine (o2_ixK (p := eI t14.1) rfl) _ _ _ _ _ _ _ hA fun v H hA => ?_
            refine x_cb1 ?_
            refine x_op ?_
            refine x_op ?_
            refine x_op ?_
            refine (ev_var rfl) _ _ _ _ _ hA fun v H hA => ?_
            refine x_op ?_
            refine x_op ?_
            refine (ev_var rfl) _ _ _ _ _ hA fun v H hA => ?_
            refine (ev_var rfl) _ _ _ _ _ hA fun v H hA => ?_
            refine f_o2m (o2_idxT (xs := a) (e := (eP3 eI eI eI))) hA hm fun t15 v H hA hm => ?_
            refine ev_int _ _ _ _ _ hA fun v H hA => ?_
            refine (o2_ixK (p := eI t15.2.1) rfl) _ _ _ _ _ _ _ hA fun v H hA => ?_
            refine o2_i0 _ _ _ _ _ _ _ hA fun v H hA => ?_
            refine ev_int _ _ _ _ _ hA fun v H hA => ?_
            refine o2_i0 _ _ _ _ _ _ _ hA fun v H hA => ?_
            refine x_op ?_
            refine x_op ?_
            refine (ev_var rfl) _ _ _ _ _ hA fun v H hA => ?_
            refine (ev_var rfl) _ _ _ _ _ hA fun v H hA => ?_
            refine f_o2m (o2_idxT (xs := a) (e := (eP3 eI eI eI))) hA hm fun t16 v H hA hm => ?_
            refine ev_int _ _ _ _ _ hA fun v H hA => ?_
            refine (o2_ixK (p := eI t16.2.1) rfl) _ _ _ _ _ _ _ hA fun v H hA => ?_
            refine f_o2m o2_div hA hm fun t17 v H hA hm => ?_
            refine o1_int _ _ _ _ _ _ hA fun v H hA => ?_
            refine f_o2m o2_mul hA hm fun t18 v H hA hm => ?_
            refine o2_i0 _ _ _ _ _ _ _ hA fun v H hA => ?_
            refine f_setlt (e := (s12 + t18)) (fun t => .dat (eI t)) hA (fun t j z => nomatch z) rfl hm (fun total_19 => ?_)
            change BJ K _ [some (.dat ((eT (eP3 eI eI eI)) a)), some (.dat (eI b3)), some (.dat (eI s6.1)), none, none, some (.dat (eI total_19)), some (.dat (eI b13))] _ _ _ _ _
            exact bj_nx (a := total_19) (.s (.s (.s (.d (.d (.s (.d .nil)))))))
          ·
            change BJ K _ [some (.dat ((eT (eP3 eI eI eI)) a)), some (.dat (eI b3)), some (.dat (eI s6.1)), none, none, some (.dat (eI s12)), none] _ _ _ _ _
            refine bj_assoc ?_
            refine fun g σ H D hA hm => x_asg ?_
            refine (ev_op (ev_var rfl) (ev_var rfl) o2_eqI) _ _ _ _ _ hA fun v H hA => ?_
            refine f_setlt (e := (decide (s12 = s6.1))) (fun t => .dat (eB t)) hA (fun t j z => nomatch z) rfl hm (fun still_20 => ?_)
            change BJ K _ [some (.dat ((eT (eP3 eI eI eI)) a)), some (.dat (eI b3)), some (.dat (eI s6.1)), some (.dat (eB still_20)), none, some (.dat (eI s12)), none] _ _ _ _ _
            refine bj_assoc ?_
            refine fun g σ H D hA hm => x_asg ?_
            refine (ev_var rfl) _ _ _ _ _ hA fun v H hA => ?_
            refine f_setgo hA (fun j z => nomatch z) rfl hm ?_
            change BJ K _ [some (.dat ((eT (eP3 eI eI eI)) a)), some (.dat (eI b3)), some (.dat (eI s12)), some (.dat (eB still_20)), none, some (.dat (eI s12)), none] _ _ _ _ _
            refine bj_pass ?_
            exact bj_nx (a := (s12, still_20)) (.s (.s (.s (.s (.d (.d (.d .nil)))))))
        ·
          refine bj_go hA hm ?_
          change BJ K _ [some (.dat ((eT (eP3 eI eI eI)) a)), some (.dat (eI b3)), some (.dat (eI s6.1)), some (.dat (eB s6.2)), some (.dat (eI b7)), none, none] _ _ _ _ _
          refine bj_pass ?_
          exact bj_nx (a := (s6.1, s6.2)) (.s (.s (.s (.s (.d (.d (.d .nil)))))))
    ·
      change BJ K _ [some (.dat ((eT (eP3 eI eI eI)) a)), some (.dat (eI b3)), some (.dat (eI s6.1)), some (.dat (eB s6.2)), none, none, none] _ _ _ _ _
      refine bj_ifL (evb_not (evb_B (ev_var rfl))) ?_ ?_
      ·
        refine bj_assoc ?_
        refine fun g σ H D hA hm => x_ret ?_
        refine ev_bl _ _ _ _ _ hA fun v H hA => ?_
        exact hm v H _ (hA.weak1 (.d .nil) fun j z => nomatch z)
      ·
        refine bj_pass ?_
        exact bj_nx (a := ()) (.s (.d (.d (.d (.d (.d (.d .nil)))))))
  ·
    change BJ K _ [some (.dat ((eT (eP3 eI eI eI)) a)), none, none, none, none, none, none] _ _ _ _ _
    refine fun g σ H D hA hm => x_ret ?_
    refine ev_bl _ _ _ _ _ hA fun v H hA => ?_
    exact hm v H _ (hA.weak1 (.d .nil) fun j z => nomatch z)
theorem ok_law_orders (T : Txt K mg Z) : FnOk P w K mg base (L2.CX P w) 1 Z.f_law_orders Z.d_law_orders ["many"] (Spec K Z.ec 1 pre_law_orders f_law_orders post_law_orders ret_law_orders) := by
  refine fn_ok T.d_law_orders.F sc_law_orders rfl m_law_orders fun cdv A outer s H E hr => ?_
  refine ⟨_, (pss_cons (ps_set (i := 1) sc_law_orders.nd rfl (Or.inl rfl) (pe_lst (pa_cons (pe_tup pa_nil) pa_nil)))
  (pss_cons (ps_for (passes_of rfl) rfl (pi_range1 (by rfl) T.z_range (pa_cons (pv 0) pa_nil)) (pg_name (i := 2) sc_law_orders.nd rfl (Or.inl rfl)) (pss_cons (ps_set (i := 3) sc_law_orders.nd rfl (Or.inl rfl) (pe_lst pa_nil))
  (pss_cons (ps_for (passes_of rfl) rfl (pi_list (pv 1)) (pg_name (i := 4) sc_law_orders.nd rfl (Or.inl rfl)) (pss_cons (ps_for (passes_of rfl) rfl (pi_range1 (by rfl) T.z_range (pa_cons (pe_op op_add (pe_callB (r := rLen K) c_len (by rfl) T.z_len (by decide +kernel) (pa_cons (pv 4) pa_nil)) pe_int) pa_nil)) (pg_name (i := 5) sc_law_orders.nd rfl (Or.inl rfl)) (pss_cons (ps_expr (pe_bm PySem.F.plainAttrs_list PySem.F.slot_list_append PySem.F.type_list_append mt_append (pv 3) (pa_cons (pe_op (r := rCatA K) op_catA (pe_op (r := rCatA K) op_catA (pe_slice (r := rSlA K) sl_tupA (pv 4) po_none (po_some (pv 5))) (pe_tup (pa_cons (pv 2) pa_nil))) (pe_slice (r := rSlA K) sl_tupA (pv 4) (po_some (pv 5)) po_none)) pa_nil)))
  pss_nil))
  pss_nil))
  (pss_cons (ps_set (i := 1) sc_law_orders.nd rfl (Or.inl rfl) (pe_callTy (r := rList K) c_list (by rfl) T.z_list (by decide +kernel) (pa_cons (pv 3) pa_nil)))
  pss_nil))))
  (pss_cons (ps_ret (pv 1))
  pss_nil))), ?_⟩
  intro a as _
  change BJ K _ [some (.dat (eI a)), none, none, none, none, none] _ _ _ _ _
  refine fun g σ H D hA hm => x_asg ?_
  refine (ev_lst [(eT eI) ([])] (ea_cons (ev_tup [] ea_nil) ea_nil)) _ _ _ _ _ hA fun v H hA => ?_
  replace hA := hA.frz
  refine f_setlt (e := [[]]) (fun t => .dat ((eL (eT eI)) t)) hA (fun t j z => nomatch z) rfl hm (fun orders_1 => ?_)
  change BJ K _ [some (.dat (eI a)), some (.dat ((eL (eT eI)) orders_1)), none, none, none, none] _ _ _ _ _
  refine fun g σ H D hA hm => ?_
  refine x_forR1 ?_
  refine (ev_var rfl) _ _ _ _ _ hA fun v H hA => ?_
  refine f_rng1 (b := a) hA hm fun hm => f_for (e := eI) (fun (s3 : (List (List Int))) => [none, some (.dat ((eL (eT eI)) s3)), none, none, none, none]) (s0 := orders_1) (.d (.s (.d (.d (.d (.d .nil)))))) hm (hb_of (e := eI) (js := [2]) (ps := fun b4 => [eI b4]) (fun b => tj_name) (hjl (n := 6) (fun s => rfl) (by decide)) (fun s3 b4 => ?_)) (fun s3 => ?_)
  ·
    change BJ K _ [none, some (.dat ((eL (eT eI)) s3)), some (.dat (eI b4)), none, none, none] _ _ _ _ _
    refine fun g σ H D hA hm => x_asg ?_
    refine (ev_lst [] ea_nil) _ _ _ _ _ hA fun v H hA => ?_
    refine f_setlt (e := []) (fun t => .own none (.lst (List.map (eT eI) t))) hA (fun t j z => nomatch z) rfl hm (fun longer_5 => ?_)
    change BJ K _ [none, some (.dat ((eL (eT eI)) s3)), some (.dat (eI b4)), some (.own none (.lst (List.map (eT eI) longer_5))), none, none] _ _ _ _ _
    refine fun g σ H D hA hm => ?_
    refine x_forL ?_
    refine (ev_var rfl) _ _ _ _ _ hA fun v H hA => ?_
    refine wk_list (xs := s3) (e := (eT eI)) hA (f_for (e := (eT eI)) (fun (s6 : (List (List Int))) => [none, none, some (.dat (eI b4)), some (.own none (.lst (List.map (eT eI) s6))), none, none]) (s0 := longer_5) (.d (.d (.s (.s (.d (.d .nil)))))) hm (hb_of (e := (eT eI)) (js := [4]) (ps := fun b7 => [(eT eI) b7]) (fun b => tj_name) (hjl (n := 6) (fun s => rfl) (by decide)) (fun s6 b7 => ?_)) (fun s6 => ?_))
    ·
      change BJ K _ [none, none, some (.dat (eI b4)), some (.own none (.lst (List.map (eT eI) s6))), some (.dat ((eT eI) b7)), none] _ _ _ _ _
      refine fun g σ H D hA hm => ?_
      refine x_forR1 ?_
      refine (ev_op (ev_cb1 (ev_var rfl) (o1_lenT b7 eI .t)) ev_int o2_i0) _ _ _ _ _ hA fun v H hA => ?_
      refine f_rng1 (b := (((b7).length : Int) + (1 : Int))) hA hm fun hm => f_for (e := eI) (fun (s9 : (List (List Int))) => [none, none, some (.dat (eI b4)), some (.own none (.lst (List.map (eT eI) s9))), some (.dat ((eT eI) b7)), none]) (s0 := s6) (.d (.d (.s (.s (.s (.d .nil)))))) hm (hb_of (e := eI) (js := [5]) (ps := fun b10 => [eI b10]) (fun b => tj_name) (hjl (n := 6) (fun s => rfl) (by decide)) (fun s9 b10 => ?_)) (fun s9 => ?_)
      ·
        change BJ K _ [none, none, some (.dat (eI b4)), some (.own none (.lst (List.map (eT eI) s9))), some (.dat ((eT eI) b7)), some (.dat (eI b10))] _ _ _ _ _
        refine fun g σ H D hA hm => x_drop ?_
        refine x_app rfl hA fun x H hA => ?_
        refine x_op ?_
        refine x_op ?_
        refine (ev_slice (ev_var rfl) evo_none (evo_some (ev_var rfl)) (o1_cutTT (xs := b7) (e := eI))) _ _ _ _ _ hA fun v H hA => ?_
        refine (ev_tup [eI b4] (ea_cons (ev_var rfl) ea_nil)) _ _ _ _ _ hA fun v H hA => ?_
        refine f_o2m (o2_catT (xs := (cutL b7 none (some b10))) (ys := [b4]) (e := eI)) hA hm fun t11 v H hA hm => ?_
        refine (ev_slice (ev_var rfl) (evo_some (ev_var rfl)) evo_none (o1_cutTT (xs := b7) (e := eI))) _ _ _ _ _ hA fun v H hA => ?_
        refine f_o2m (o2_catT (xs := t11) (ys := (cutL b7 (some b10) none)) (e := eI)) hA hm fun t12 v H hA hm => ?_
        refine f_appm (xs := s9) (e := (eT eI)) rfl hA hm fun ys13 H hA hm => ?_
        refine bj_go hA hm ?_
        change BJ K _ [none, none, some (.dat (eI b4)), some (.own none (.lst (List.map (eT eI) ys13))), some (.dat ((eT eI) b7)), some (.dat (eI b10))] _ _ _ _ _
        exact bj_nx (a := ys13) (.d (.d (.s (.s (.s (.d .nil))))))
      ·
        change BJ K _ [none, none, some (.dat (eI b4)), some (.own none (.lst (List.map (eT eI) s9))), some (.dat ((eT eI) b7)), none] _ _ _ _ _
        exact bj_nx (a := s9) (.d (.d (.s (.s (.d (.d .nil))))))
    ·
      change BJ K _ [none, none, some (.dat (eI b4)), some (.own none (.lst (List.map (eT eI) s6))), none, none] _ _ _ _ _
      refine fun g σ H D hA hm => x_asg ?_
      refine (ev_cb1 (ev_own rfl) (o1_list (.l (.als rfl)))) _ _ _ _ _ hA fun v H hA => ?_
      replace hA := hA.frz
      refine f_setgo hA (fun j z => nomatch z) rfl hm ?_
      change BJ K _ [none, some (.dat ((eL (eT eI)) s6)), some (.dat (eI b4)), some (.own none (.lst (List.map (eT eI) s6))), none, none] _ _ _ _ _
      exact bj_nx (a := s6) (.d (.s (.d (.d (.d (.d .nil))))))
  ·
    change BJ K _ [none, some (.dat ((eL (eT eI)) s3)), none, none, none, none] _ _ _ _ _
    refine fun g σ H D hA hm => x_ret ?_
    refine (ev_var rfl) _ _ _ _ _ hA fun v H hA => ?_
    exact hm v H _ (hA.weak1 (.d .nil) fun j z => nomatch z)
theorem ok_law_by_periods (T : Txt K mg Z) : FnOk P w K mg base (L2.CX P w) 1 Z.f_law_by_periods Z.d_law_by_periods ["jobs"] (Spec K Z.ec 1 pre_law_by_periods f_law_by_periods post_law_by_periods ret_law_by_periods) := by
  refine fn_ok T.d_law_by_periods.F sc_law_by_periods rfl m_law_by_periods fun cdv A outer s H E hr => ?_
  refine ⟨_, (pss_cons (ps_set (i := 1) sc_law_by_periods.nd rfl (Or.inl rfl) (pe_lst pa_nil))
  (pss_cons (ps_for (passes_of rfl) rfl (pi_range2 (by rfl) T.z_range (pa_cons pe_int (pa_cons pe_int pa_nil))) (pg_name (i := 2) sc_law_by_periods.nd rfl (Or.inl rfl)) (pss_cons (ps_for (passes_of rfl) rfl (pi_range1 (by rfl) T.z_range (pa_cons (pe_callB (r := rLen K) c_len (by rfl) T.z_len (by decide +kernel) (pa_cons (pv 0) pa_nil)) pa_nil)) (pg_name (i := 3) sc_law_by_periods.nd rfl (Or.inl rfl)) (pss_cons (ps_if (pt_cmpR op_eq (pe_ix (r := rIxT K) ix_tup (pe_ix (r := rIxT K) ix_tup (pv 0) (pv 3) (fun _ _ => rfl)) pe_int (fun _ _ => rfl)) (pv 2) (nomark _)) (pss_cons (ps_expr (pe_bm PySem.F.plainAttrs_list PySem.F.slot_list_append PySem.F.type_list_append mt_append (pv 1) (pa_cons (pv 3) pa_nil)))
  pss_nil) pss_nil)
  pss_nil))
  pss_nil))
  (pss_cons (ps_ret (pe_callTy (r := rTuple K) c_tuple (by rfl) T.z_tuple (by decide +kernel) (pa_cons (pv 1) pa_nil)))
  pss_nil))), ?_⟩
  intro a as _
  change BJ K _ [some (.dat ((eT (eP3 eI eI eI)) a)), none, none, none] _ _ _ _ _
  refine fun g σ H D hA hm => x_asg ?_
  refine (ev_lst [] ea_nil) _ _ _ _ _ hA fun v H hA => ?_
  refine f_setlt (e := []) (fun t => .own none (.lst (List.map eI t))) hA (fun t j z => nomatch z) rfl hm (fun order_1 => ?_)
  change BJ K _ [some (.dat ((eT (eP3 eI eI eI)) a)), some (.own none (.lst (List.map eI order_1))), none, none] _ _ _ _ _
  refine fun g σ H D hA hm => ?_
  refine x_forR2 ?_
  refine ev_int _ _ _ _ _ hA fun v H hA => ?_
  refine ev_int _ _ _ _ _ hA fun v H hA => ?_
  refine f_rng2 (a := (1 : Int)) (b := (25 : Int)) hA hm fun hm => f_for (e := eI) (fun (s3 : (List Int)) => [some (.dat ((eT (eP3 eI eI eI)) a)), some (.own none (.lst (List.map eI s3))), none, none]) (s0 := order_1) (.s (.s (.d (.d .nil)))) hm (hb_of (e := eI) (js := [2]) (ps := fun b4 => [eI b4]) (fun b => tj_name) (hjl (n := 4) (fun s => rfl) (by decide)) (fun s3 b4 => ?_)) (fun s3 => ?_)
  ·
    change BJ K _ [some (.dat ((eT (eP3 eI eI eI)) a)), some (.own none (.lst (List.map eI s3))), some (.dat (eI b4)), none] _ _ _ _ _
    refine fun g σ H D hA hm => ?_
    refine x_forR1 ?_
    refine (ev_cb1 (ev_var rfl) (o1_lenT a (eP3 eI eI eI) .t)) _ _ _ _ _ hA fun v H hA => ?_
    refine f_rng1 (b := ((a).length : Int)) hA hm fun hm => f_for (e := eI) (fun (s6 : (List Int)) => [some (.dat ((eT (eP3 eI eI eI)) a)), some (.own none (.lst (List.map eI s6))), some (.dat (eI b4)), none]) (s0 := s3) (.s (.s (.s (.d .nil)))) hm (hb_of (e := eI) (js := [3]) (ps := fun b7 => [eI b7]) (fun b => tj_name) (hjl (n := 4) (fun s => rfl) (by decide)) (fun s6 b7 => ?_)) (fun s6 => ?_)
    ·
      change BJ K _ [some (.dat ((eT (eP3 eI eI eI)) a)), some (.own none (.lst (List.map eI s6))), some (.dat (eI b4)), some (.dat (eI b7))] _ _ _ _ _
      refine fun g σ H D hA hm => x_ifS ?_
      refine x_test ?_
      refine x_op ?_
      refine x_op ?_
      refine x_op ?_
      refine (ev_var rfl) _ _ _ _ _ hA fun v H hA => ?_
      refine (ev_var rfl) _ _ _ _ _ hA fun v H hA => ?_
      refine f_o2m (o2_idxT (xs := a) (e := (eP3 eI eI eI))) hA hm fun t8 v H hA hm => ?_
      refine ev_int _ _ _ _ _ hA fun v H hA => ?_
      refine (o2_ixK (p := eI t8.2.1) rfl) _ _ _ _ _ _ _ hA fun v H hA => ?_
      refine (ev_var rfl) _ _ _ _ _ hA fun v H hA => ?_
      refine o2_eqI _ _ _ _ _ _ _ hA fun v H hA => ?_
      refine f_tst (P := fun c H1 => _) hA fun hA => ?_
      refine f_ifS hm (fun hm => ?_) (fun hm => ?_)
      ·
        refine bj_go hA hm ?_
        change BJ K _ [some (.dat ((eT (eP3 eI eI eI)) a)), some (.own none (.lst (List.map eI s6))), some (.dat (eI b4)), some (.dat (eI b7))] _ _ _ _ _
        refine bj_assoc ?_
        refine fun g σ H D hA hm => x_drop ?_
        refine x_app rfl hA fun x H hA => ?_
        refine (ev_var rfl) _ _ _ _ _ hA fun v H hA => ?_
        refine f_appm (xs := s6) (e := eI) rfl hA hm fun ys9 H hA hm => ?_
        refine bj_go hA hm ?_
        change BJ K _ [some (.dat ((eT (eP3 eI eI eI)) a)), some (.own none (.lst (List.map eI ys9))), some (.dat (eI b4)), some (.dat (eI b7))] _ _ _ _ _
        refine bj_pass ?_
        exact bj_nx (a := ys9) (.s (.s (.s (.d .nil))))
      ·
        refine bj_go hA hm ?_
        change BJ K _ [some (.dat ((eT (eP3 eI eI eI)) a)), some (.own none (.lst (List.map eI s6))), some (.dat (eI b4)), some (.dat (eI b7))] _ _ _ _ _
        refine bj_pass ?_
        exact bj_nx (a := s6) (.s (.s (.s (.d .nil))))
    ·
      change BJ K _ [some (.dat ((eT (eP3 eI eI eI)) a)), some (.own none (.lst (List.map eI s6))), some (.dat (eI b4)), none] _ _ _ _ _
      exact bj_nx (a := s6) (.s (.s (.d (.d .nil))))
  ·
    change BJ K _ [some (.dat ((eT (eP3 eI eI eI)) a)), some (.own none (.lst (List.map eI s3))), none, none] _ _ _ _ _
    refine fun g σ H D hA hm => x_ret ?_
    refine (ev_cb1 (ev_own rfl) (o1_tuple (.l (.als rfl)))) _ _ _ _ _ hA fun v H hA => ?_
    exact hm v H _ (hA.weak1 (.d .nil) fun j z => nomatch z)
theorem ok_law_refused (T : Txt K mg Z) : FnOk P w K mg base (L2.CX P w) 7 Z.f_law_refused Z.d_law_refused ["word", "jobs"] (Spec K Z.ec 2 pre_law_refused f_law_refused post_law_refused ret_law_refused) := by
  refine fn_ok T.d_law_refused.F sc_law_refused rfl m_law_refused fun cdv A outer s H E hr => ?_
  refine ⟨_, (pss_cons (ps_set (i := 2) sc_law_refused.nd rfl (Or.inl rfl) pe_str)
  (pss_cons (ps_try rfl rfl sc_law_refused.nd (takes_of rfl rfl rfl rfl) (fun W pn xe tk' pso => (pss_cons (ps_if (pt_cmpR op_eq (pv 0) pe_int (nomark _)) (pss_cons (ps_expr (pe_callS (ok_load T) (hr.mono (by decide)) (by rfl) T.d_load.g T.d_load.F.kp T.d_load.b (fun σ => passAt tk' σ) (pa_cons (pv 1) pa_nil)))
  pss_nil) (pss_cons (ps_if (pt_cmpR op_eq (pv 0) pe_int (nomark _)) (pss_cons (ps_expr (pe_callS (ok_by_periods T) (hr.mono (by decide)) (by rfl) T.d_by_periods.g T.d_by_periods.F.kp T.d_by_periods.b (fun σ => passAt tk' σ) (pa_cons (pv 1) pa_nil)))
  pss_nil) (pss_cons (ps_expr (pe_callS (ok_never_misses T) (hr.mono (by decide)) (by rfl) T.d_never_misses.g T.d_never_misses.F.kp T.d_never_misses.b (fun σ => passAt tk' σ) (pa_cons (pv 1) pa_nil)))
  pss_nil))
  pss_nil))
  pss_nil)) (HsOk.named (i := 3) ⟨by rfl, by decide, .inl T.x_BadNumber.g⟩ rfl rfl (fun a oe cls d pn hz hf => (pss_cons (ps_set (i := 2) sc_law_refused.nd rfl (Or.inl rfl) (pe_xf T.x_BadNumber.xf (T.x_BadNumber.no _ (by decide)) hz hf (pv 3)))
  pss_nil)) (HsOk.named (i := 3) ⟨by rfl, by decide, .inl T.x_TooMany.g⟩ rfl rfl (fun a oe cls d pn hz hf => (pss_cons (ps_set (i := 2) sc_law_refused.nd rfl (Or.inl rfl) (pe_callTy c_str (by rfl) T.z_str (by decide +kernel) (pa_cons (pe_xf T.x_TooMany.xf (T.x_TooMany.no _ (by decide)) hz hf (pv 3)) pa_nil)))
  pss_nil)) HsOk.nil)))
  (pss_cons (ps_ret (pv 2))
  pss_nil))), ?_⟩
  intro a as _
  change BJ K _ [some (.dat (eI a.1)), some (.dat (eD a.2)), none, none] _ _ _ _ _
  refine fun g σ H D hA hm => x_asg ?_
  refine ev_str _ _ _ _ _ hA fun v H hA => ?_
  refine f_setlt (e := ("" : Str)) (fun t => .dat (eS t)) hA (fun t j z => nomatch z) rfl hm (fun told_1 => ?_)
  change BJ K _ [some (.dat (eI a.1)), some (.dat (eD a.2)), some (.dat (eS told_1)), none] _ _ _ _ _
  refine bj_seq (n1 := fun (s3 : Str) => [none, none, some (.dat (eS s3)), none]) ?_ (fun s3 => ?_)
  ·
    refine bj_try (Gt := [none, none, some (.dat (eS told_1)), none]) ?_ ?_ (fun W => ?_) ?_
    · rfl
    · exact .nil
    ·
      change BJ K _ [some (.dat (eI a.1)), some (.dat (eD a.2)), some (.dat (eS told_1)), none] _ _ _ _ _
      refine bj_ifL (evb_test (ev_op (ev_var rfl) ev_int o2_eqI)) ?_ ?_
      ·
        refine bj_assoc ?_
        refine fun g σ H D hA hm => x_drop ?_
        refine x_call1 ?_
        refine (ev_var rfl) _ _ _ _ _ hA fun v H hA => ?_
        refine f_call [.d (eD a.2)] a.2 (fun r => []) hA rfl rfl True.intro (fun as h => match as, h with | [], _ => rfl) (fun _ => rfl) (fun r as h => match as, h with | [], _ => rfl) (fun r j z => nomatch z) (.d (.d (.s (.d .nil)))) (hm.bindR.imp (fun r4 hm v H hA => ?_) fun _ q => q)
        refine f_dropgo hA hm ?_
        change BJ K _ [some (.dat (eI a.1)), some (.dat (eD a.2)), some (.dat (eS told_1)), none] _ _ _ _ _
        refine bj_pass ?_
        exact bj_nx (a := told_1) (.d (.d (.s (.d .nil))))
      ·
        refine bj_assoc ?_
        refine bj_ifL (evb_test (ev_op (ev_var rfl) ev_int o2_eqI)) ?_ ?_
        ·
          refine bj_assoc ?_
          refine fun g σ H D hA hm => x_drop ?_
          refine x_call1 ?_
          refine (ev_var rfl) _ _ _ _ _ hA fun v H hA => ?_
          refine f_call [.d (eD a.2)] a.2 (fun r => []) hA rfl rfl True.intro (fun as h => match as, h with | [], _ => rfl) (fun _ => rfl) (fun r as h => match as, h with | [], _ => rfl) (fun r j z => nomatch z) (.d (.d (.s (.d .nil)))) (hm.bindR.imp (fun r5 hm v H hA => ?_) fun _ q => q)
          refine f_dropgo hA hm ?_
          change BJ K _ [some (.dat (eI a.1)), some (.dat (eD a.2)), some (.dat (eS told_1)), none] _ _ _ _ _
          refine bj_pass ?_
          refine bj_pass ?_
          exact bj_nx (a := told_1) (.d (.d (.s (.d .nil))))
        ·
          refine bj_assoc ?_
          refine fun g σ H D hA hm => x_drop ?_
          refine x_call1 ?_
          refine (ev_var rfl) _ _ _ _ _ hA fun v H hA => ?_
          refine f_call [.d (eD a.2)] a.2 (fun r => []) hA rfl rfl True.intro (fun as h => match as, h with | [], _ => rfl) (fun _ => rfl) (fun r as h => match as, h with | [], _ => rfl) (fun r j z => nomatch z) (.d (.d (.s (.d .nil)))) (hm.bindR.imp (fun r6 hm v H hA => ?_) fun _ q => q)
          refine f_dropgo hA hm ?_
          change BJ K _ [some (.dat (eI a.1)), some (.dat (eD a.2)), some (.dat (eS told_1)), none] _ _ _ _ _
          refine bj_pass ?_
          refine bj_pass ?_
          exact bj_nx (a := told_1) (.d (.d (.s (.d .nil))))
    ·
      refine HJ.cons (io := (some 3)) (sub := sub_BadNumber) (fun nm r h => T.sub_BadNumber nm r h) ?_ (fun x2 a d => ?_) ?_
      · intro i z; cases z; exact ⟨(show 3 < 4 by decide), fun a => .inl rfl, fun a => a.elim, fun a => a.elim⟩
      ·
        change BJ K _ [none, none, some (.dat (eS told_1)), some (.dat (eX a d x2))] _ _ _ _ _
        refine fun g σ H D hA hm => x_asg ?_
        refine x_xfm (x := x2) (cn := "BadNumber") T.ec_BadNumber rfl hA hm fun t7 v H hA hm => ?_
        refine f_str hA hm fun t8 hA hm => ?_
        refine f_setgo hA (fun j z => nomatch z) rfl hm ?_
        change BJ K _ [none, none, some (.dat (eS t8)), some (.dat (eX a d x2))] _ _ _ _ _
        exact bj_nx (a := t8) (.d (.d (.s (.d .nil))))
      refine HJ.cons (io := (some 3)) (sub := sub_TooMany) (fun nm r h => T.sub_TooMany nm r h) ?_ (fun x2 a d => ?_) ?_
      · intro i z; cases z; exact ⟨(show 3 < 4 by decide), fun a => .inl rfl, fun a => a.elim, fun a => a.elim⟩
      ·
        change BJ K _ [none, none, some (.dat (eS told_1)), some (.dat (eX a d x2))] _ _ _ _ _
        refine fun g σ H D hA hm => x_asg ?_
        refine x_cb1 ?_
        refine x_xfm (x := x2) (cn := "TooMany") T.ec_TooMany rfl hA hm fun t9 v H hA hm => ?_
        refine f_int hA hm fun t11 hA hm => ?_
        refine f_o1m o1_str hA hm fun t10 v H hA hm => ?_
        refine f_setgo hA (fun j z => nomatch z) rfl hm ?_
        change BJ K _ [none, none, some (.dat (eS t10)), some (.dat (eX a d x2))] _ _ _ _ _
        exact bj_nx (a := t10) (.d (.d (.s (.d .nil))))
      exact HJ.nil
  ·
    change BJ K _ [none, none, some (.dat (eS s3)), none] _ _ _ _ _
    refine fun g σ H D hA hm => x_ret ?_
    refine (ev_var rfl) _ _ _ _ _ hA fun v H hA => ?_
    exact hm v H _ (hA.weak1 (.d (.d .nil)) fun j z => nomatch z)
theorem ok_law_refusals_fit (T : Txt K mg Z) : FnOk P w K mg base (L2.CX P w) 8 Z.f_law_refusals_fit Z.d_law_refusals_fit ["numbers", "jobs"] (Spec K Z.ec 2 pre_law_refusals_fit f_law_refusals_fit post_law_refusals_fit ret_law_refusals_fit) := by
  refine fn_ok T.d_law_refusals_fit.F sc_law_refusals_fit rfl m_law_refusals_fit fun cdv A outer s H E hr => ?_
  refine ⟨_, (pss_cons (ps_set (i := 2) sc_law_refusals_fit.nd rfl (Or.inl rfl) (pe_callS (ok_law_draw T) (hr.mono (by decide)) (by rfl) T.d_law_draw.g T.d_law_draw.F.kp T.d_law_draw.b (fun σ => passAt (takes_of rfl rfl rfl rfl) σ) (pa_cons (pv 0) (pa_cons (pe_op op_add (pe_callB (r := rLen K) c_len (by rfl) T.z_len (by decide +kernel) (pa_cons (pv 1) pa_nil)) pe_int) pa_nil))))
  (pss_cons (ps_for (passes_of rfl) rfl (pi_range1 (by rfl) T.z_range (pa_cons pe_int pa_nil)) (pg_name (i := 3) sc_law_refusals_fit.nd rfl (Or.inl rfl)) (pss_cons (ps_for (passes_of rfl) rfl (pi_list (pe_lst (pa_cons (pe_tup (pa_cons pe_int (pa_cons pe_int (pa_cons pe_int pa_nil)))) (pa_cons (pe_tup (pa_cons pe_int (pa_cons pe_int (pa_cons pe_int pa_nil)))) (pa_cons (pe_tup (pa_cons pe_int (pa_cons pe_int (pa_cons pe_int pa_nil)))) (pa_cons (pe_tup (pa_cons pe_int (pa_cons pe_int (pa_cons pe_int pa_nil)))) (pa_cons (pe_tup (pa_cons pe_int (pa_cons pe_int (pa_cons pe_int pa_nil)))) (pa_cons (pe_tup (pa_cons pe_int (pa_cons pe_int (pa_cons (pe_un un_neg pe_int) pa_nil)))) (pa_cons (pe_tup (pa_cons pe_int (pa_cons pe_int pa_nil))) (pa_cons pe_int pa_nil)))))))))) (pg_name (i := 4) sc_law_refusals_fit.nd rfl (Or.inl rfl)) (pss_cons (ps_if (pt_cmpR op_ne (pe_callS (ok_law_refused T) (hr.mono (by decide)) (by rfl) T.d_law_refused.g T.d_law_refused.F.kp T.d_law_refused.b (fun σ => passAt (takes_of rfl rfl rfl rfl) σ) (pa_cons (pv 3) (pa_cons (pe_op (r := rCatA K) op_catA (pe_op (r := rCatA K) op_catA (pe_slice (r := rSlA K) sl_tupA (pv 1) po_none (po_some (pv 2))) (pe_tup (pa_cons (pv 4) pa_nil))) (pe_slice (r := rSlA K) sl_tupA (pv 1) (po_some (pv 2)) po_none)) pa_nil))) pe_str (nomark _)) (pss_cons (ps_ret pe_bl)
  pss_nil) pss_nil)
  pss_nil))
  (pss_cons (ps_if (pw_or (pt_cmpR op_ne (pe_callS (ok_law_refused T) (hr.mono (by decide)) (by rfl) T.d_law_refused.g T.d_law_refused.F.kp T.d_law_refused.b (fun σ => passAt (takes_of rfl rfl rfl rfl) σ) (pa_cons (pv 3) (pa_cons (pe_op (r := rRepT K) op_repT (pe_tup (pa_cons (pe_tup (pa_cons pe_int (pa_cons pe_int (pa_cons pe_int pa_nil)))) pa_nil)) pe_int) pa_nil))) pe_str (nomark _)) (pw_or1 (pt_cmpR op_ne (pe_callS (ok_law_refused T) (hr.mono (by decide)) (by rfl) T.d_law_refused.g T.d_law_refused.F.kp T.d_law_refused.b (fun σ => passAt (takes_of rfl rfl rfl rfl) σ) (pa_cons (pv 3) (pa_cons pe_int pa_nil))) pe_str (nomark _)))).pt (pss_cons (ps_ret pe_bl)
  pss_nil) pss_nil)
  (pss_cons (ps_if (pw_or (pt_cmpR op_ne (pe_callS (ok_law_refused T) (hr.mono (by decide)) (by rfl) T.d_law_refused.g T.d_law_refused.F.kp T.d_law_refused.b (fun σ => passAt (takes_of rfl rfl rfl rfl) σ) (pa_cons (pv 3) (pa_cons (pe_op (r := rRepT K) op_repT (pe_tup (pa_cons (pe_tup (pa_cons pe_int (pa_cons pe_int (pa_cons pe_int pa_nil)))) pa_nil)) pe_int) pa_nil))) pe_str (nomark _)) (pw_or1 (pt_cmpR op_ne (pe_callS (ok_law_refused T) (hr.mono (by decide)) (by rfl) T.d_law_refused.g T.d_law_refused.F.kp T.d_law_refused.b (fun σ => passAt (takes_of rfl rfl rfl rfl) σ) (pa_cons (pv 3) (pa_cons (pv 1) pa_nil))) pe_str (nomark _)))).pt (pss_cons (ps_ret pe_bl)
  pss_nil) pss_nil)
  pss_nil))))
  (pss_cons (ps_ret pe_bl)
  pss_nil))), ?_⟩
  intro a as _
  change BJ K _ [some (.own (as[0]?) (.lst (List.map eI a.1))), some (.dat ((eT (eP3 eI eI eI)) a.2)), none, none, none] _ _ _ _ _
  refine fun g σ H D hA hm => x_asg ?_
  refine x_call2 ?_
  refine (ev_own rfl) _ _ _ _ _ hA fun v H hA => ?_
  refine (ev_op (ev_cb1 (ev_var rfl) (o1_lenT a.2 (eP3 eI eI eI) .t)) ev_int o2_i0) _ _ _ _ _ hA fun v H hA => ?_
  refine f_call [.o 0 (as[0]?) (.lst (List.map eI a.1)), .d (eI (((a.2).length : Int) + (1 : Int)))] (a.1, (((a.2).length : Int) + (1 : Int))) (fun r => [.lst (List.map eI r.2)]) hA rfl rfl ⟨rfl, True.intro⟩ (fun as h => match as, h with | [_], _ => rfl) (fun _ => rfl) (fun r as h => match as, h with | [_], _ => rfl) (fun r j z => nomatch z) .nil (hm.bindR.imp (fun r1 hm v H hA => ?_) fun _ q => q)
  replace hA : At K g [some (.own (as[0]?) (.lst (List.map eI r1.2))), some (.dat ((eT (eP3 eI eI eI)) a.2)), none, none, none] _ _ _ := hA
  refine f_setgo hA (fun j z => nomatch z) rfl hm ?_
  change BJ K _ [some (.own (as[0]?) (.lst (List.map eI r1.2))), some (.dat ((eT (eP3 eI eI eI)) a.2)), some (.dat (eI r1.1)), none, none] _ _ _ _ _
  refine fun g σ H D hA hm => ?_
  refine x_forR1 ?_
  refine ev_int _ _ _ _ _ hA fun v H hA => ?_
  refine f_rng1 (b := (3 : Int)) hA hm fun hm => f_for (e := eI) (fun (s3 : Unit) => [some (.own (as[0]?) (.lst (List.map eI r1.2))), some (.dat ((eT (eP3 eI eI eI)) a.2)), some (.dat (eI r1.1)), none, none]) (s0 := ()) (.s (.s (.s (.d (.d .nil))))) hm (hb_of (e := eI) (js := [3]) (ps := fun b4 => [eI b4]) (fun b => tj_name) (hjl (n := 5) (fun s => rfl) (by decide)) (fun s3 b4 => ?_)) (fun s3 => ?_)
  ·
    change BJ K _ [some (.own (as[0]?) (.lst (List.map eI r1.2))), some (.dat ((eT (eP3 eI eI eI)) a.2)), some (.dat (eI r1.1)), some (.dat (eI b4)), none] _ _ _ _ _
    refine fun g σ H D hA hm => ?_
    refine x_forL ?_
    refine (ev_lst [eD ((dP3 PyData.int PyData.int PyData.int) ((0 : Int), (4 : Int), (0 : Int))), eD ((dP3 PyData.int PyData.int PyData.int) ((13 : Int), (24 : Int), (0 : Int))), eD ((dP3 PyData.int PyData.int PyData.int) ((1 : Int), (25 : Int), (0 : Int))), eD ((dP3 PyData.int PyData.int PyData.int) ((1 : Int), (0 : Int), (0 : Int))), eD ((dP3 PyData.int PyData.int PyData.int) ((1 : Int), (4 : Int), (4 : Int))), eD ((dP3 PyData.int PyData.int PyData.int) ((1 : Int), (4 : Int), (-(1 : Int)))), eD ((dP2 PyData.int PyData.int) ((1 : Int), (4 : Int))), eD (PyData.int (3 : Int))] (ea_cons (ev_box (bx_p3 bx_i bx_i bx_i) (ev_tup [eI (0 : Int), eI (4 : Int), eI (0 : Int)] (ea_cons ev_int (ea_cons ev_int (ea_cons ev_int ea_nil))))) (ea_cons (ev_box (bx_p3 bx_i bx_i bx_i) (ev_tup [eI (13 : Int), eI (24 : Int), eI (0 : Int)] (ea_cons ev_int (ea_cons ev_int (ea_cons ev_int ea_nil))))) (ea_cons (ev_box (bx_p3 bx_i bx_i bx_i) (ev_tup [eI (1 : Int), eI (25 : Int), eI (0 : Int)] (ea_cons ev_int (ea_cons ev_int (ea_cons ev_int ea_nil))))) (ea_cons (ev_box (bx_p3 bx_i bx_i bx_i) (ev_tup [eI (1 : Int), eI (0 : Int), eI (0 : Int)] (ea_cons ev_int (ea_cons ev_int (ea_cons ev_int ea_nil))))) (ea_cons (ev_box (bx_p3 bx_i bx_i bx_i) (ev_tup [eI (1 : Int), eI (4 : Int), eI (4 : Int)] (ea_cons ev_int (ea_cons ev_int (ea_cons ev_int ea_nil))))) (ea_cons (ev_box (bx_p3 bx_i bx_i bx_i) (ev_tup [eI (1 : Int), eI (4 : Int), eI (-(1 : Int))] (ea_cons ev_int (ea_cons ev_int (ea_cons (ev_un ev_int o1_neg) ea_nil))))) (ea_cons (ev_box (bx_p2 bx_i bx_i) (ev_tup [eI (1 : Int), eI (4 : Int)] (ea_cons ev_int (ea_cons ev_int ea_nil)))) (ea_cons (ev_box bx_i ev_int) ea_nil))))))))) _ _ _ _ _ hA fun v H hA => ?_
    replace hA := hA.frz
    refine wk_list (xs := [((dP3 PyData.int PyData.int PyData.int) ((0 : Int), (4 : Int), (0 : Int))), ((dP3 PyData.int PyData.int PyData.int) ((13 : Int), (24 : Int), (0 : Int))), ((dP3 PyData.int PyData.int PyData.int) ((1 : Int), (25 : Int), (0 : Int))), ((dP3 PyData.int PyData.int PyData.int) ((1 : Int), (0 : Int), (0 : Int))), ((dP3 PyData.int PyData.int PyData.int) ((1 : Int), (4 : Int), (4 : Int))), ((dP3 PyData.int PyData.int PyData.int) ((1 : Int), (4 : Int), (-(1 : Int)))), ((dP2 PyData.int PyData.int) ((1 : Int), (4 : Int))), (PyData.int (3 : Int))]) (e := eD) hA (f_for (e := eD) (fun (s5 : Unit) => [some (.own (as[0]?) (.lst (List.map eI r1.2))), some (.dat ((eT (eP3 eI eI eI)) a.2)), some (.dat (eI r1.1)), some (.dat (eI b4)), none]) (s0 := ()) (.s (.s (.s (.s (.d .nil))))) hm (hb_of (e := eD) (js := [4]) (ps := fun b6 => [eD b6]) (fun b => tj_name) (hjl (n := 5) (fun s => rfl) (by decide)) (fun s5 b6 => ?_)) (fun s5 => ?_))
    ·
      change BJ K _ [some (.own (as[0]?) (.lst (List.map eI r1.2))), some (.dat ((eT (eP3 eI eI eI)) a.2)), some (.dat (eI r1.1)), some (.dat (eI b4)), some (.dat (eD b6))] _ _ _ _ _
      refine fun g σ H D hA hm => x_ifS ?_
      refine x_test ?_
      refine x_op ?_
      refine x_call2 ?_
      refine (ev_var rfl) _ _ _ _ _ hA fun v H hA => ?_
      refine x_op ?_
      refine x_op ?_
      refine (ev_slice (ev_var rfl) evo_none (evo_some (ev_var rfl)) (o1_cutTT (xs := a.2) (e := (eP3 eI eI eI)))) _ _ _ _ _ hA fun v H hA => ?_
      replace hA := hA.box (boxT (bx_p3 bx_i bx_i bx_i))
      refine (ev_tup [eD b6] (ea_cons (ev_var rfl) ea_nil)) _ _ _ _ _ hA fun v H hA => ?_
      refine f_o2m (o2_catT (xs := (List.map (dP3 PyData.int PyData.int PyData.int) (cutL a.2 none (some r1.1)))) (ys := [b6]) (e := eD)) hA hm fun t7 v H hA hm => ?_
      refine (ev_slice (ev_var rfl) (evo_some (ev_var rfl)) evo_none (o1_cutTT (xs := a.2) (e := (eP3 eI eI eI)))) _ _ _ _ _ hA fun v H hA => ?_
      replace hA := hA.box (boxT (bx_p3 bx_i bx_i bx_i))
      refine f_o2m (o2_catT (xs := t7) (ys := (List.map (dP3 PyData.int PyData.int PyData.int) (cutL a.2 (some r1.1) none))) (e := eD)) hA hm fun t8 v H hA hm => ?_
      replace hA := hA.box (Bx.hd (bx_t bx_d))
      refine f_call [.d (eI b4), .d (eD ((dT id) t8))] (b4, ((dT id) t8)) (fun r => []) hA rfl rfl True.intro (fun as h => match as, h with | [], _ => rfl) (fun _ => rfl) (fun r as h => match as, h with | [], _ => rfl) (fun r j z => nomatch z) .nil (hm.bindR.imp (fun r9 hm v H hA => ?_) fun _ q => q)
      refine ev_str _ _ _ _ _ hA fun v H hA => ?_
      refine o2_neS _ _ _ _ _ _ _ hA fun v H hA => ?_
      refine f_tst (P := fun c H1 => _) hA fun hA => ?_
      refine f_ifS hm (fun hm => ?_) (fun hm => ?_)
      ·
        refine bj_go hA hm ?_
        change BJ K _ [some (.own (as[0]?) (.lst (List.map eI r1.2))), some (.dat ((eT (eP3 eI eI eI)) a.2)), some (.dat (eI r1.1)), some (.dat (eI b4)), some (.dat (eD b6))] _ _ _ _ _
        refine bj_assoc ?_
        refine fun g σ H D hA hm => x_ret ?_
        refine ev_bl _ _ _ _ _ hA fun v H hA => ?_
        exact hm v H _ (hA.weak1 (.s (.d .nil)) fun j z => nomatch z)
      ·
        refine bj_go hA hm ?_
        change BJ K _ [some (.own (as[0]?) (.lst (List.map eI r1.2))), some (.dat ((eT (eP3 eI eI eI)) a.2)), some (.dat (eI r1.1)), some (.dat (eI b4)), some (.dat (eD b6))] _ _ _ _ _
        refine bj_pass ?_
        exact bj_nx (a := ()) (.s (.s (.s (.s (.d .nil)))))
    ·
      change BJ K _ [some (.own (as[0]?) (.lst (List.map eI r1.2))), some (.dat ((eT (eP3 eI eI eI)) a.2)), some (.dat (eI r1.1)), some (.dat (eI b4)), none] _ _ _ _ _
      refine fun g σ H D hA hm => x_ifS ?_
      refine f_joinT (fun (s : Bool) => [some (.own (as[0]?) (.lst (List.map eI r1.2))), some (.dat ((eT (eP3 eI eI eI)) a.2)), some (.dat (eI r1.1)), some (.dat (eI b4)), none]) (fun s => s) hA hm (fun hm => ?_) (fun j10 H hA hm => ?_)
      ·
        refine x_orT ?_
        refine x_test ?_
        refine x_op ?_
        refine x_call2 ?_
        refine (ev_var rfl) _ _ _ _ _ hA fun v H hA => ?_
        refine x_op ?_
        refine (ev_tup [(eP3 eI eI eI) ((1 : Int), (6 : Int), (0 : Int))] (ea_cons (ev_tup [eI (1 : Int), eI (6 : Int), eI (0 : Int)] (ea_cons ev_int (ea_cons ev_int (ea_cons ev_int ea_nil)))) ea_nil)) _ _ _ _ _ hA fun v H hA => ?_
        refine ev_int _ _ _ _ _ hA fun v H hA => ?_
        refine f_o2m (o2_repT (xs := [((1 : Int), (6 : Int), (0 : Int))]) (e := (eP3 eI eI eI))) hA hm fun t11 v H hA hm => ?_
        replace hA := hA.box (Bx.hd (bx_t (bx_p3 bx_i bx_i bx_i)))
        refine f_call [.d (eI b4), .d (eD ((dT (dP3 PyData.int PyData.int PyData.int)) t11))] (b4, ((dT (dP3 PyData.int PyData.int PyData.int)) t11)) (fun r => []) hA rfl rfl True.intro (fun as h => match as, h with | [], _ => rfl) (fun _ => rfl) (fun r as h => match as, h with | [], _ => rfl) (fun r j z => nomatch z) .nil (hm.bindR.imp (fun r12 hm v H hA => ?_) fun _ q => q)
        refine ev_str _ _ _ _ _ hA fun v H hA => ?_
        refine o2_neS _ _ _ _ _ _ _ hA fun v H hA => ?_
        refine f_tst (P := fun c H1 => _) hA fun hA => ?_
        refine f_pick hm (fun hm => ?_) (fun hm => ?_)
        ·
          exact hm H hA
        ·
          refine x_test ?_
          refine x_op ?_
          refine x_call2 ?_
          refine (ev_var rfl) _ _ _ _ _ hA fun v H hA => ?_
          refine ev_int _ _ _ _ _ hA fun v H hA => ?_
          replace hA := hA.box (Bx.hd bx_i)
          refine f_call [.d (eI b4), .d (eD (PyData.int (7 : Int)))] (b4, (PyData.int (7 : Int))) (fun r => []) hA rfl rfl True.intro (fun as h => match as, h with | [], _ => rfl) (fun _ => rfl) (fun r as h => match as, h with | [], _ => rfl) (fun r j z => nomatch z) .nil (hm.bindR.imp (fun r13 hm v H hA => ?_) fun _ q => q)
          refine ev_str _ _ _ _ _ hA fun v H hA => ?_
          refine o2_neS _ _ _ _ _ _ _ hA fun v H hA => ?_
          refine f_tst (P := fun c H1 => _) hA fun hA => ?_
          exact hm H hA
      ·
        replace hA : At K g [some (.own (as[0]?) (.lst (List.map eI r1.2))), some (.dat ((eT (eP3 eI eI eI)) a.2)), some (.dat (eI r1.1)), some (.dat (eI b4)), none] _ _ _ := hA
        refine f_ifS hm (fun hm => ?_) (fun hm => ?_)
        ·
          refine bj_go hA hm ?_
          change BJ K _ [some (.own (as[0]?) (.lst (List.map eI r1.2))), some (.dat ((eT (eP3 eI eI eI)) a.2)), some (.dat (eI r1.1)), some (.dat (eI b4)), none] _ _ _ _ _
          refine bj_assoc ?_
          refine fun g σ H D hA hm => x_ret ?_
          refine ev_bl _ _ _ _ _ hA fun v H hA => ?_
          exact hm v H _ (hA.weak1 (.s (.d .nil)) fun j z => nomatch z)
        ·
          refine bj_go hA hm ?_
          change BJ K _ [some (.own (as[0]?) (.lst (List.map eI r1.2))), some (.dat ((eT (eP3 eI eI eI)) a.2)), some (.dat (eI r1.1)), some (.dat (eI b4)), none] _ _ _ _ _
          refine bj_pass ?_
          refine fun g σ H D hA hm => x_ifS ?_
          refine f_joinT (fun (s : Bool) => [some (.own (as[0]?) (.lst (List.map eI r1.2))), some (.dat ((eT (eP3 eI eI eI)) a.2)), some (.dat (eI r1.1)), some (.dat (eI b4)), none]) (fun s => s) hA hm (fun hm => ?_) (fun j14 H hA hm => ?_)
          ·
            refine x_orT ?_
            refine x_test ?_
            refine x_op ?_
            refine x_call2 ?_
            refine (ev_var rfl) _ _ _ _ _ hA fun v H hA => ?_
            refine x_op ?_
            refine (ev_tup [(eP3 eI eI eI) ((1 : Int), (24 : Int), (23 : Int))] (ea_cons (ev_tup [eI (1 : Int), eI (24 : Int), eI (23 : Int)] (ea_cons ev_int (ea_cons ev_int (ea_cons ev_int ea_nil)))) ea_nil)) _ _ _ _ _ hA fun v H hA => ?_
            refine ev_int _ _ _ _ _ hA fun v H hA => ?_
            refine f_o2m (o2_repT (xs := [((1 : Int), (24 : Int), (23 : Int))]) (e := (eP3 eI eI eI))) hA hm fun t15 v H hA hm => ?_
            replace hA := hA.box (Bx.hd (bx_t (bx_p3 bx_i bx_i bx_i)))
            refine f_call [.d (eI b4), .d (eD ((dT (dP3 PyData.int PyData.int PyData.int)) t15))] (b4, ((dT (dP3 PyData.int PyData.int PyData.int)) t15)) (fun r => []) hA rfl rfl True.intro (fun as h => match as, h with | [], _ => rfl) (fun _ => rfl) (fun r as h => match as, h with | [], _ => rfl) (fun r j z => nomatch z) .nil (hm.bindR.imp (fun r16 hm v H hA => ?_) fun _ q => q)
            refine ev_str _ _ _ _ _ hA fun v H hA => ?_
            refine o2_neS _ _ _ _ _ _ _ hA fun v H hA => ?_
            refine f_tst (P := fun c H1 => _) hA fun hA => ?_
            refine f_pick hm (fun hm => ?_) (fun hm => ?_)
            ·
              exact hm H hA
            ·
              refine x_test ?_
              refine x_op ?_
              refine x_call2 ?_
              refine (ev_var rfl) _ _ _ _ _ hA fun v H hA => ?_
              refine (ev_var rfl) _ _ _ _ _ hA fun v H hA => ?_
              replace hA := hA.box (Bx.hd (bx_t (bx_p3 bx_i bx_i bx_i)))
              refine f_call [.d (eI b4), .d (eD ((dT (dP3 PyData.int PyData.int PyData.int)) a.2))] (b4, ((dT (dP3 PyData.int PyData.int PyData.int)) a.2)) (fun r => []) hA rfl rfl True.intro (fun as h => match as, h with | [], _ => rfl) (fun _ => rfl) (fun r as h => match as, h with | [], _ => rfl) (fun r j z => nomatch z) .nil (hm.bindR.imp (fun r17 hm v H hA => ?_) fun _ q => q)
              refine ev_str _ _ _ _ _ hA fun v H hA => ?_
              refine o2_neS _ _ _ _ _ _ _ hA fun v H hA => ?_
              refine f_tst (P := fun c H1 => _) hA fun hA => ?_
              exact hm H hA
          ·
            replace hA : At K g [some (.own (as[0]?) (.lst (List.map eI r1.2))), some (.dat ((eT (eP3 eI eI eI)) a.2)), some (.dat (eI r1.1)), some (.dat (eI b4)), none] _ _ _ := hA
            refine f_ifS hm (fun hm => ?_) (fun hm => ?_)
            ·
              refine bj_go hA hm ?_
              change BJ K _ [some (.own (as[0]?) (.lst (List.map eI r1.2))), some (.dat ((eT (eP3 eI eI eI)) a.2)), some (.dat (eI r1.1)), some (.dat (eI b4)), none] _ _ _ _ _
              refine bj_assoc ?_
              refine fun g σ H D hA hm => x_ret ?_
              refine ev_bl _ _ _ _ _ hA fun v H hA => ?_
              exact hm v H _ (hA.weak1 (.s (.d .nil)) fun j z => nomatch z)
            ·
              refine bj_go hA hm ?_
              change BJ K _ [some (.own (as[0]?) (.lst (List.map eI r1.2))), some (.dat ((eT (eP3 eI eI eI)) a.2)), some (.dat (eI r1.1)), some (.dat (eI b4)), none] _ _ _ _ _
              refine bj_pass ?_
              exact bj_nx (a := ()) (.s (.s (.s (.d (.d .nil)))))
  ·
    change BJ K _ [some (.own (as[0]?) (.lst (List.map eI r1.2))), some (.dat ((eT (eP3 eI eI eI)) a.2)), some (.dat (eI r1.1)), none, none] _ _ _ _ _
    refine fun g σ H D hA hm => x_ret ?_
    refine ev_bl _ _ _ _ _ hA fun v H hA => ?_
    exact hm v H _ (hA.weak1 (.s (.d .nil)) fun j z => nomatch z)
theorem ok_law (T : Txt K mg Z) : FnOk P w K mg base (L2.CX P w) 9 Z.f_law Z.d_law ["script"] (Spec K Z.ec 1 pre_law f_law post_law ret_law) := by
  refine fn_ok T.d_law.F sc_law rfl m_law fun cdv A outer s H E hr => ?_
  refine ⟨_, (pss_cons (ps_set (i := 1) sc_law.nd rfl (Or.inl rfl) (pe_callS (ok_law_numbers T) (hr.mono (by decide)) (by rfl) T.d_law_numbers.g T.d_law_numbers.F.kp T.d_law_numbers.b (fun σ => passAt (takes_of rfl rfl rfl rfl) σ) (pa_cons (pv 0) pa_nil)))
  (pss_cons (ps_set (i := 2) sc_law.nd rfl (Or.inl rfl) (pe_cmpR op_eq (pe_callS (ok_law_draw T) (hr.mono (by decide)) (by rfl) T.d_law_draw.g T.d_law_draw.F.kp T.d_law_draw.b (fun σ => passAt (takes_of rfl rfl rfl rfl) σ) (pa_cons (pv 1) (pa_cons pe_int pa_nil))) pe_int (nomark _)))
  (pss_cons (ps_if (pt_val (pv 2)) (pss_cons (ps_set (i := 7) sc_law.nd rfl (Or.inr rfl) (pe_callTy (r := rTuple K) c_tuple (by rfl) T.z_tuple (by decide +kernel) (pa_cons (pe_callS (ok_law_dividing T) (hr.mono (by decide)) (by rfl) T.d_law_dividing.g T.d_law_dividing.F.kp T.d_law_dividing.b (fun σ => passAt (takes_of rfl rfl rfl rfl) σ) (pa_cons (pv 1) pa_nil)) pa_nil)))
  pss_nil) (pss_cons (ps_set (i := 7) sc_law.nd rfl (Or.inr rfl) (pe_callTy (r := rTuple K) c_tuple (by rfl) T.z_tuple (by decide +kernel) (pa_cons (pe_callS (ok_law_any_jobs T) (hr.mono (by decide)) (by rfl) T.d_law_any_jobs.g T.d_law_any_jobs.F.kp T.d_law_any_jobs.b (fun σ => passAt (takes_of rfl rfl rfl rfl) σ) (pa_cons (pv 1) pa_nil)) pa_nil)))
  pss_nil))
  (pss_cons (ps_set (i := 3) sc_law.nd rfl (Or.inl rfl) (pe_callS (ok_law_load T) (hr.mono (by decide)) (by rfl) T.d_law_load.g T.d_law_load.F.kp T.d_law_load.b (fun σ => passAt (takes_of rfl rfl rfl rfl) σ) (pa_cons (pv 7) pa_nil)))
  (pss_cons (ps_set (i := 4) sc_law.nd rfl (Or.inl rfl) (pe_callS (ok_load T) (hr.mono (by decide)) (by rfl) T.d_load.g T.d_load.F.kp T.d_load.b (fun σ => passAt (takes_of rfl rfl rfl rfl) σ) (pa_cons (pv 7) pa_nil)))
  (pss_cons (ps_if (pw_or (pt_not (pt_val (pe_callB (r := rIsi K) call_isi (by rfl) T.z_isinstance (by decide +kernel) (pa_cons (pv 4) (pa_cons (pe_bltn (v := .ty "tuple") (u := .type "tuple") (by rfl) T.z_tuple (by decide +kernel) rfl) pa_nil))))) (pw_or (pt_cmpR (r := rNeD K) (op_neD hr.units) (pv 4) (pv 3) (nomark _)) (pw_or (pt_not (pt_val (pe_callS (ok_law_int T) (hr.mono (by decide)) (by rfl) T.d_law_int.g T.d_law_int.F.kp T.d_law_int.b (fun σ => passAt (takes_of rfl rfl rfl rfl) σ) (pa_cons (pe_ix (r := rIxT K) ix_tup (pv 4) pe_int (fun _ _ => rfl)) pa_nil)))) (pw_or1 (pt_not (pt_val (pe_callS (ok_law_int T) (hr.mono (by decide)) (by rfl) T.d_law_int.g T.d_law_int.F.kp T.d_law_int.b (fun σ => passAt (takes_of rfl rfl rfl rfl) σ) (pa_cons (pe_ix (r := rIxT K) ix_tup (pv 4) pe_int (fun _ _ => rfl)) pa_nil)))))))).pt (pss_cons (ps_ret pe_bl)
  pss_nil) pss_nil)
  (pss_cons (ps_set (i := 4) sc_law.nd rfl (Or.inl rfl) (pe_callS (ok_by_periods T) (hr.mono (by decide)) (by rfl) T.d_by_periods.g T.d_by_periods.F.kp T.d_by_periods.b (fun σ => passAt (takes_of rfl rfl rfl rfl) σ) (pa_cons (pv 7) pa_nil)))
  (pss_cons (ps_if (pw_or (pt_not (pt_val (pe_callB (r := rIsi K) call_isi (by rfl) T.z_isinstance (by decide +kernel) (pa_cons (pv 4) (pa_cons (pe_bltn (v := .ty "tuple") (u := .type "tuple") (by rfl) T.z_tuple (by decide +kernel) rfl) pa_nil))))) (pw_or1 (pt_cmpR (r := rNeD K) (op_neD hr.units) (pv 4) (pe_callS (ok_law_by_periods T) (hr.mono (by decide)) (by rfl) T.d_law_by_periods.g T.d_law_by_periods.F.kp T.d_law_by_periods.b (fun σ => passAt (takes_of rfl rfl rfl rfl) σ) (pa_cons (pv 7) pa_nil)) (nomark _)))).pt (pss_cons (ps_ret pe_bl)
  pss_nil) pss_nil)
  (pss_cons (ps_set (i := 5) sc_law.nd rfl (Or.inl rfl) pe_bl)
  (pss_cons (ps_for (passes_of rfl) rfl (pi_list (pe_callS (ok_law_orders T) (hr.mono (by decide)) (by rfl) T.d_law_orders.g T.d_law_orders.F.kp T.d_law_orders.b (fun σ => passAt (takes_of rfl rfl rfl rfl) σ) (pa_cons (pe_callB (r := rLen K) c_len (by rfl) T.z_len (by decide +kernel) (pa_cons (pv 7) pa_nil)) pa_nil))) (pg_name (i := 6) sc_law.nd rfl (Or.inl rfl)) (pss_cons (ps_set (i := 8) sc_law.nd rfl (Or.inl rfl) (pe_callTy (r := rTuple K) c_tuple (by rfl) T.z_tuple (by decide +kernel) (pa_cons (pe_lc (own := [("place", 10)]) (g := gName 10) rfl sc_law.nd (pi_tup (pv 6)) (blkOk_by (N := ["script", "numbers", "dividing", "due", "told", "some", "order", "jobs", "ranked", "well", "place", "job"]) (sc := defScope st_law) (by decide +kernel)) (fun _ _ _ _ _ => (pg_name (i := 10) sc_law.nd rfl (Or.inl rfl))) (fun _ _ _ _ _ => pts_nil) (fun _ _ _ _ _ => (pe_ix (r := rIxT K) ix_tup (pv 7) (pv 10) (fun _ _ => rfl)))) pa_nil)))
  (pss_cons (ps_set (i := 9) sc_law.nd rfl (Or.inl rfl) (pe_callS (ok_law_well T) (hr.mono (by decide)) (by rfl) T.d_law_well.g T.d_law_well.F.kp T.d_law_well.b (fun σ => passAt (takes_of rfl rfl rfl rfl) σ) (pa_cons (pv 8) pa_nil)))
  (pss_cons (ps_set (i := 5) sc_law.nd rfl (Or.inl rfl) (pe_or (pv 5) (pe_one (pv 9))))
  (pss_cons (ps_set (i := 4) sc_law.nd rfl (Or.inl rfl) (pe_callS (ok_never_misses T) (hr.mono (by decide)) (by rfl) T.d_never_misses.g T.d_never_misses.F.kp T.d_never_misses.b (fun σ => passAt (takes_of rfl rfl rfl rfl) σ) (pa_cons (pv 8) pa_nil)))
  (pss_cons (ps_if (pw_or (pt_not (pt_val (pe_callB (r := rIsi K) call_isi (by rfl) T.z_isinstance (by decide +kernel) (pa_cons (pv 4) (pa_cons (pe_bltn (v := .ty "bool") (u := .type "bool") (by rfl) T.z_bool (by decide +kernel) rfl) pa_nil))))) (pw_or1 (pt_cmpR op_ne (pv 4) (pv 9) (nomark _)))).pt (pss_cons (ps_ret pe_bl)
  pss_nil) pss_nil)
  pss_nil))))))
  (pss_cons (ps_if (pt_cmpR op_ne (pe_callS (ok_never_misses T) (hr.mono (by decide)) (by rfl) T.d_never_misses.g T.d_never_misses.F.kp T.d_never_misses.b (fun σ => passAt (takes_of rfl rfl rfl rfl) σ) (pa_cons (pe_callTy (r := rTuple K) c_tuple (by rfl) T.z_tuple (by decide +kernel) (pa_cons (pe_lc (own := [("place", 10)]) (g := gName 10) rfl sc_law.nd (pi_tup (pe_callS (ok_by_periods T) (hr.mono (by decide)) (by rfl) T.d_by_periods.g T.d_by_periods.F.kp T.d_by_periods.b (fun σ => passAt (takes_of rfl rfl rfl rfl) σ) (pa_cons (pv 7) pa_nil))) (blkOk_by (N := ["script", "numbers", "dividing", "due", "told", "some", "order", "jobs", "ranked", "well", "place", "job"]) (sc := defScope st_law) (by decide +kernel)) (fun _ _ _ _ _ => (pg_name (i := 10) sc_law.nd rfl (Or.inl rfl))) (fun _ _ _ _ _ => pts_nil) (fun _ _ _ _ _ => (pe_ix (r := rIxT K) ix_tup (pv 7) (pv 10) (fun _ _ => rfl)))) pa_nil)) pa_nil)) (pv 5) (nomark _)) (pss_cons (ps_ret pe_bl)
  pss_nil) pss_nil)
  (pss_cons (ps_if (pw_and (pt_val (pv 2)) (pw_and1 (pt_cmpR op_ne (pe_callS (ok_never_misses T) (hr.mono (by decide)) (by rfl) T.d_never_misses.g T.d_never_misses.F.kp T.d_never_misses.b (fun σ => passAt (takes_of rfl rfl rfl rfl) σ) (pa_cons (pv 7) pa_nil)) (pe_cmpR op_le (pe_ix (r := rIxT K) ix_tup (pv 3) pe_int (fun _ _ => rfl)) (pe_ix (r := rIxT K) ix_tup (pv 3) pe_int (fun _ _ => rfl)) (nomark _)) (nomark _)))).pt (pss_cons (ps_ret pe_bl)
  pss_nil) pss_nil)
  (pss_cons (ps_if (pt_cmpR op_ne (pe_callS (ok_never_misses T) (hr.mono (by decide)) (by rfl) T.d_never_misses.g T.d_never_misses.F.kp T.d_never_misses.b (fun σ => passAt (takes_of rfl rfl rfl rfl) σ) (pa_cons (pe_lc (own := [("job", 11)]) (g := gName 11) rfl sc_law.nd (pi_tup (pv 7)) (blkOk_by (N := ["script", "numbers", "dividing", "due", "told", "some", "order", "jobs", "ranked", "well", "place", "job"]) (sc := defScope st_law) (by decide +kernel)) (fun _ _ _ _ _ => (pg_name (i := 11) sc_law.nd rfl (Or.inl rfl))) (fun _ _ _ _ _ => pts_nil) (fun _ _ _ _ _ => (pe_callTy (r := rList K) c_list (by rfl) T.z_list (by decide +kernel) (pa_cons (pv 11) pa_nil)))) pa_nil)) (pe_callS (ok_never_misses T) (hr.mono (by decide)) (by rfl) T.d_never_misses.g T.d_never_misses.F.kp T.d_never_misses.b (fun σ => passAt (takes_of rfl rfl rfl rfl) σ) (pa_cons (pv 7) pa_nil)) (nomark _)) (pss_cons (ps_ret pe_bl)
  pss_nil) pss_nil)
  (pss_cons (ps_ret (pe_and (pe_cmpR (r := rEqD K) (op_eqD hr.units) (pe_callS (ok_load T) (hr.mono (by decide)) (by rfl) T.d_load.g T.d_load.F.kp T.d_load.b (fun σ => passAt (takes_of rfl rfl rfl rfl) σ) (pa_cons (pe_lc (own := [("job", 11)]) (g := gName 11) rfl sc_law.nd (pi_tup (pv 7)) (blkOk_by (N := ["script", "numbers", "dividing", "due", "told", "some", "order", "jobs", "ranked", "well", "place", "job"]) (sc := defScope st_law) (by decide +kernel)) (fun _ _ _ _ _ => (pg_name (i := 11) sc_law.nd rfl (Or.inl rfl))) (fun _ _ _ _ _ => pts_nil) (fun _ _ _ _ _ => (pe_callTy (r := rList K) c_list (by rfl) T.z_list (by decide +kernel) (pa_cons (pv 11) pa_nil)))) pa_nil)) (pv 3) (nomark _)) (pe_one (pe_callS (ok_law_refusals_fit T) (hr.mono (by decide)) (by rfl) T.d_law_refusals_fit.g T.d_law_refusals_fit.F.kp T.d_law_refusals_fit.b (fun σ => passAt (takes_of rfl rfl rfl rfl) σ) (pa_cons (pv 1) (pa_cons (pv 7) pa_nil))))))
  pss_nil)))))))))))))), ?_⟩
  intro a as _
  change BJ K _ [some (.dat ((eL eI) a)), none, none, none, none, none, none, none, none, none, none, none] _ _ _ _ _
  refine fun g σ H D hA hm => x_asg ?_
  refine x_call1 ?_
  refine (ev_var rfl) _ _ _ _ _ hA fun v H hA => ?_
  refine f_call [.d ((eL eI) a)] a (fun r => []) hA rfl rfl True.intro (fun as h => match as, h with | [], _ => rfl) (fun _ => rfl) (fun r as h => match as, h with | [], _ => rfl) (fun r j z => nomatch z) .nil (hm.bindR.imp (fun r1 hm v H hA => ?_) fun _ q => q)
  refine f_setgo hA (fun j z => nomatch z) rfl hm ?_
  change BJ K _ [some (.dat ((eL eI) a)), some (.own none (.lst (List.map eI r1))), none, none, none, none, none, none, none, none, none, none] _ _ _ _ _
  refine fun g σ H D hA hm => x_asg ?_
  refine x_op ?_
  refine x_call2 ?_
  refine (ev_own rfl) _ _ _ _ _ hA fun v H hA => ?_
  refine ev_int _ _ _ _ _ hA fun v H hA => ?_
  refine f_call [.o 1 none (.lst (List.map eI r1)), .d (eI (2 : Int))] (r1, (2 : Int)) (fun r => [.lst (List.map eI r.2)]) hA rfl rfl ⟨rfl, True.intro⟩ (fun as h => match as, h with | [_], _ => rfl) (fun _ => rfl) (fun r as h => match as, h with | [_], _ => rfl) (fun r j z => nomatch z) .nil (hm.bindR.imp (fun r2 hm v H hA => ?_) fun _ q => q)
  replace hA : At K g [some (.dat ((eL eI) a)), some (.own none (.lst (List.map eI r2.2))), none, none, none, none, none, none, none, none, none, none] _ _ _ := hA
  refine ev_int _ _ _ _ _ hA fun v H hA => ?_
  refine o2_eqI _ _ _ _ _ _ _ hA fun v H hA => ?_
  refine f_setlt (e := (decide (r2.1 = (1 : Int)))) (fun t => .dat (eB t)) hA (fun t j z => nomatch z) rfl hm (fun dividing_3 => ?_)
  change BJ K _ [some (.dat ((eL eI) a)), some (.own none (.lst (List.map eI r2.2))), some (.dat (eB dividing_3)), none, none, none, none, none, none, none, none, none] _ _ _ _ _
  refine bj_seq (n1 := fun (s4 : ((List Int) × (List (Int × Int × Int)))) => [none, some (.own none (.lst (List.map eI s4.1))), some (.dat (eB dividing_3)), none, none, none, none, some (.dat ((eT (eP3 eI eI eI)) s4.2)), none, none, none, none]) ?_ (fun s4 => ?_)
  ·
    refine bj_if (evb_B (ev_var rfl)) ?_ ?_
    ·
      refine fun g σ H D hA hm => x_asg ?_
      refine x_cb1 ?_
      refine x_call1 ?_
      refine (ev_own rfl) _ _ _ _ _ hA fun v H hA => ?_
      refine f_call [.o 1 none (.lst (List.map eI r2.2))] r2.2 (fun r => [.lst (List.map eI r.2)]) hA rfl rfl ⟨rfl, True.intro⟩ (fun as h => match as, h with | [_], _ => rfl) (fun _ => rfl) (fun r as h => match as, h with | [_], _ => rfl) (fun r j z => nomatch z) .nil (hm.bindR.imp (fun r5 hm v H hA => ?_) fun _ q => q)
      replace hA : At K g [some (.dat ((eL eI) a)), some (.own none (.lst (List.map eI r5.2))), some (.dat (eB dividing_3)), none, none, none, none, none, none, none, none, none] _ _ _ := hA
      refine o1_tuple (.l .dat) _ _ _ _ _ _ hA fun v H hA => ?_
      refine f_setgo hA (fun j z => nomatch z) rfl hm ?_
      change BJ K _ [some (.dat ((eL eI) a)), some (.own none (.lst (List.map eI r5.2))), some (.dat (eB dividing_3)), none, none, none, none, some (.dat ((eT (eP3 eI eI eI)) r5.1)), none, none, none, none] _ _ _ _ _
      exact bj_nx (a := (r5.2, r5.1)) (.d (.s (.s (.d (.d (.d (.d (.s (.d (.d (.d (.d .nil))))))))))))
    ·
      refine fun g σ H D hA hm => x_asg ?_
      refine x_cb1 ?_
      refine x_call1 ?_
      refine (ev_own rfl) _ _ _ _ _ hA fun v H hA => ?_
      refine f_call [.o 1 none (.lst (List.map eI r2.2))] r2.2 (fun r => [.lst (List.map eI r.2)]) hA rfl rfl ⟨rfl, True.intro⟩ (fun as h => match as, h with | [_], _ => rfl) (fun _ => rfl) (fun r as h => match as, h with | [_], _ => rfl) (fun r j z => nomatch z) .nil (hm.bindR.imp (fun r6 hm v H hA => ?_) fun _ q => q)
      replace hA : At K g [some (.dat ((eL eI) a)), some (.own none (.lst (List.map eI r6.2))), some (.dat (eB dividing_3)), none, none, none, none, none, none, none, none, none] _ _ _ := hA
      refine o1_tuple (.l .dat) _ _ _ _ _ _ hA fun v H hA => ?_
      refine f_setgo hA (fun j z => nomatch z) rfl hm ?_
      change BJ K _ [some (.dat ((eL eI) a)), some (.own none (.lst (List.map eI r6.2))), some (.dat (eB dividing_3)), none, none, none, none, some (.dat ((eT (eP3 eI eI eI)) r6.1)), none, none, none, none] _ _ _ _ _
      exact bj_nx (a := (r6.2, r6.1)) (.d (.s (.s (.d (.d (.d (.d (.s (.d (.d (.d (.d .nil))))))))))))
  ·
    change BJ K _ [none, some (.own none (.lst (List.map eI s4.1))), some (.dat (eB dividing_3)), none, none, none, none, some (.dat ((eT (eP3 eI eI eI)) s4.2)), none, none, none, none] _ _ _ _ _
    refine fun g σ H D hA hm => x_asg ?_
    refine x_call1 ?_
    refine (ev_var rfl) _ _ _ _ _ hA fun v H hA => ?_
    refine f_call [.d ((eT (eP3 eI eI eI)) s4.2)] s4.2 (fun r => []) hA rfl rfl True.intro (fun as h => match as, h with | [], _ => rfl) (fun _ => rfl) (fun r as h => match as, h with | [], _ => rfl) (fun r j z => nomatch z) .nil (hm.bindR.imp (fun r7 hm v H hA => ?_) fun _ q => q)
    refine f_setgo hA (fun j z => nomatch z) rfl hm ?_
    change BJ K _ [none, some (.own none (.lst (List.map eI s4.1))), some (.dat (eB dividing_3)), some (.dat ((eP2 eI eI) r7)), none, none, none, some (.dat ((eT (eP3 eI eI eI)) s4.2)), none, none, none, none] _ _ _ _ _
    refine fun g σ H D hA hm => x_asg ?_
    refine x_call1 ?_
    refine (ev_var rfl) _ _ _ _ _ hA fun v H hA => ?_
    replace hA := hA.box (Bx.hd (bx_t (bx_p3 bx_i bx_i bx_i)))
    refine f_call [.d (eD ((dT (dP3 PyData.int PyData.int PyData.int)) s4.2))] ((dT (dP3 PyData.int PyData.int PyData.int)) s4.2) (fun r => []) hA rfl rfl True.intro (fun as h => match as, h with | [], _ => rfl) (fun _ => rfl) (fun r as h => match as, h with | [], _ => rfl) (fun r j z => nomatch z) .nil (hm.bindR.imp (fun r8 hm v H hA => ?_) fun _ q => q)
    refine f_setgo hA (fun j z => nomatch z) rfl hm ?_
    change BJ K _ [none, some (.own none (.lst (List.map eI s4.1))), some (.dat (eB dividing_3)), some (.dat ((eP2 eI eI) r7)), some (.dat ((eP2 eI eI) r8)), none, none, some (.dat ((eT (eP3 eI eI eI)) s4.2)), none, none, none, none] _ _ _ _ _
    refine fun g σ H D hA hm => x_ifS ?_
    refine f_joinT (fun (s : Bool) => [none, some (.own none (.lst (List.map eI s4.1))), some (.dat (eB dividing_3)), some (.dat ((eP2 eI eI) r7)), some (.dat ((eP2 eI eI) r8)), none, none, some (.dat ((eT (eP3 eI eI eI)) s4.2)), none, none, none, none]) (fun s => s) hA hm (fun hm => ?_) (fun j9 H hA hm => ?_)
    ·
      refine x_orT ?_
      refine (evb_not (evb_B (ev_isi (d := ((dP2 PyData.int PyData.int) r8)) .tuple (ev_var rfl) (.dat (bx_p2 bx_i bx_i))))) _ _ _ _ _ hA fun H hA => ?_
      refine f_pick hm (fun hm => ?_) (fun hm => ?_)
      ·
        exact hm H hA
      ·
        refine x_orT ?_
        refine (evb_test (ev_op (ev_var rfl) (ev_var rfl) (o2_neD (x := (r8 : (Int × Int))) (y := (r7 : (Int × Int))) (.dat (bx_p2 bx_i bx_i)) (.dat (bx_p2 bx_i bx_i)) (eq_p2 eq_i eq_i)))) _ _ _ _ _ hA fun H hA => ?_
        refine f_pick hm (fun hm => ?_) (fun hm => ?_)
        ·
          exact hm H hA
        ·
          refine x_orT ?_
          refine x_not ?_
          refine x_B ?_
          refine x_call1 ?_
          refine (ev_op (ev_var rfl) ev_int (o2_ixK (p := eI r8.1))) _ _ _ _ _ hA fun v H hA => ?_
          replace hA := hA.box (Bx.hd bx_i)
          refine f_call [.d (eD (PyData.int r8.1))] (PyData.int r8.1) (fun r => []) hA rfl rfl True.intro (fun as h => match as, h with | [], _ => rfl) (fun _ => rfl) (fun r as h => match as, h with | [], _ => rfl) (fun r j z => nomatch z) .nil (hm.bindR.imp (fun r10 hm v H hA => ?_) fun _ q => q)
          refine f_tst (P := fun c H1 => _) hA fun hA => ?_
          refine f_pick hm (fun hm => ?_) (fun hm => ?_)
          ·
            exact hm H hA
          ·
            refine x_not ?_
            refine x_B ?_
            refine x_call1 ?_
            refine (ev_op (ev_var rfl) ev_int (o2_ixK (p := eI r8.2))) _ _ _ _ _ hA fun v H hA => ?_
            replace hA := hA.box (Bx.hd bx_i)
            refine f_call [.d (eD (PyData.int r8.2))] (PyData.int r8.2) (fun r => []) hA rfl rfl True.intro (fun as h => match as, h with | [], _ => rfl) (fun _ => rfl) (fun r as h => match as, h with | [], _ => rfl) (fun r j z => nomatch z) .nil (hm.bindR.imp (fun r11 hm v H hA => ?_) fun _ q => q)
            refine f_tst (P := fun c H1 => _) hA fun hA => ?_
            exact hm H hA
    ·
      replace hA : At K g [none, some (.own none (.lst (List.map eI s4.1))), some (.dat (eB dividing_3)), some (.dat ((eP2 eI eI) r7)), some (.dat ((eP2 eI eI) r8)), none, none, some (.dat ((eT (eP3 eI eI eI)) s4.2)), none, none, none, none] _ _ _ := hA
      refine f_ifS hm (fun hm => ?_) (fun hm => ?_)
      ·
        refine bj_go hA hm ?_
        change BJ K _ [none, some (.own none (.lst (List.map eI s4.1))), some (.dat (eB dividing_3)), some (.dat ((eP2 eI eI) r7)), some (.dat ((eP2 eI eI) r8)), none, none, some (.dat ((eT (eP3 eI eI eI)) s4.2)), none, none, none, none] _ _ _ _ _
        refine bj_assoc ?_
        refine fun g σ H D hA hm => x_ret ?_
        refine ev_bl _ _ _ _ _ hA fun v H hA => ?_
        exact hm v H _ (hA.weak1 (.d .nil) fun j z => nomatch z)
      ·
        refine bj_go hA hm ?_
        change BJ K _ [none, some (.own none (.lst (List.map eI s4.1))), some (.dat (eB dividing_3)), some (.dat ((eP2 eI eI) r7)), some (.dat ((eP2 eI eI) r8)), none, none, some (.dat ((eT (eP3 eI eI eI)) s4.2)), none, none, none, none] _ _ _ _ _
        refine bj_pass ?_
        refine fun g σ H D hA hm => x_asg ?_
        refine x_call1 ?_
        refine (ev_var rfl) _ _ _ _ _ hA fun v H hA => ?_
        replace hA := hA.box (Bx.hd (bx_t (bx_p3 bx_i bx_i bx_i)))
        refine f_call [.d (eD ((dT (dP3 PyData.int PyData.int PyData.int)) s4.2))] ((dT (dP3 PyData.int PyData.int PyData.int)) s4.2) (fun r => []) hA rfl rfl True.intro (fun as h => match as, h with | [], _ => rfl) (fun _ => rfl) (fun r as h => match as, h with | [], _ => rfl) (fun r j z => nomatch z) .nil (hm.bindR.imp (fun r12 hm v H hA => ?_) fun _ q => q)
        refine f_setgo hA (fun j z => nomatch z) rfl hm ?_
        change BJ K _ [none, some (.own none (.lst (List.map eI s4.1))), some (.dat (eB dividing_3)), some (.dat ((eP2 eI eI) r7)), some (.dat ((eT eI) r12)), none, none, some (.dat ((eT (eP3 eI eI eI)) s4.2)), none, none, none, none] _ _ _ _ _
        refine fun g σ H D hA hm => x_ifS ?_
        refine f_joinT (fun (s : Bool) => [none, some (.own none (.lst (List.map eI s4.1))), some (.dat (eB dividing_3)), some (.dat ((eP2 eI eI) r7)), some (.dat ((eT eI) r12)), none, none, some (.dat ((eT (eP3 eI eI eI)) s4.2)), none, none, none, none]) (fun s => s) hA hm (fun hm => ?_) (fun j13 H hA hm => ?_)
        ·
          refine x_orT ?_
          refine (evb_not (evb_B (ev_isi (d := ((dT PyData.int) r12)) .tuple (ev_var rfl) (.dat (bx_t bx_i))))) _ _ _ _ _ hA fun H hA => ?_
          refine f_pick hm (fun hm => ?_) (fun hm => ?_)
          ·
            exact hm H hA
          ·
            refine x_test ?_
            refine x_op ?_
            refine (ev_var rfl) _ _ _ _ _ hA fun v H hA => ?_
            refine x_call1 ?_
            refine (ev_var rfl) _ _ _ _ _ hA fun v H hA => ?_
            refine f_call [.d ((eT (eP3 eI eI eI)) s4.2)] s4.2 (fun r => []) hA rfl rfl True.intro (fun as h => match as, h with | [], _ => rfl) (fun _ => rfl) (fun r as h => match as, h with | [], _ => rfl) (fun r j z => nomatch z) .nil (hm.bindR.imp (fun r14 hm v H hA => ?_) fun _ q => q)
            refine (o2_neD (x := (r12 : (List Int))) (y := (r14 : (List Int))) (.dat (bx_t bx_i)) (.dat (bx_t bx_i)) (eq_t eq_i)) _ _ _ _ _ _ _ hA fun v H hA => ?_
            refine f_tst (P := fun c H1 => _) hA fun hA => ?_
            exact hm H hA
        ·
          replace hA : At K g [none, some (.own none (.lst (List.map eI s4.1))), some (.dat (eB dividing_3)), some (.dat ((eP2 eI eI) r7)), some (.dat ((eT eI) r12)), none, none, some (.dat ((eT (eP3 eI eI eI)) s4.2)), none, none, none, none] _ _ _ := hA
          refine f_ifS hm (fun hm => ?_) (fun hm => ?_)
          ·
            refine bj_go hA hm ?_
            change BJ K _ [none, some (.own none (.lst (List.map eI s4.1))), some (.dat (eB dividing_3)), some (.dat ((eP2 eI eI) r7)), some (.dat ((eT eI) r12)), none, none, some (.dat ((eT (eP3 eI eI eI)) s4.2)), none, none, none, none] _ _ _ _ _
            refine bj_assoc ?_
            refine fun g σ H D hA hm => x_ret ?_
            refine ev_bl _ _ _ _ _ hA fun v H hA => ?_
            exact hm v H _ (hA.weak1 (.d .nil) fun j z => nomatch z)
          ·
            refine bj_go hA hm ?_
            change BJ K _ [none, some (.own none (.lst (List.map eI s4.1))), some (.dat (eB dividing_3)), some (.dat ((eP2 eI eI) r7)), some (.dat ((eT eI) r12)), none, none, some (.dat ((eT (eP3 eI eI eI)) s4.2)), none, none, none, none] _ _ _ _ _
            refine bj_pass ?_
            refine fun g σ H D hA hm => x_asg ?_
            refine ev_bl _ _ _ _ _ hA fun v H hA => ?_
            refine f_setgo hA (fun j z => nomatch z) rfl hm ?_
            change BJ K _ [none, some (.own none (.lst (List.map eI s4.1))), some (.dat (eB dividing_3)), some (.dat ((eP2 eI eI) r7)), some (.dat ((eT eI) r12)), some (.dat (eB false)), none, some (.dat ((eT (eP3 eI eI eI)) s4.2)), none, none, none, none] _ _ _ _ _
            refine fun g σ H D hA hm => ?_
            refine x_forL ?_
            refine x_call1 ?_
            refine (ev_cb1 (ev_var rfl) (o1_lenT s4.2 (eP3 eI eI eI) .t)) _ _ _ _ _ hA fun v H hA => ?_
            refine f_call [.d (eI ((s4.2).length : Int))] ((s4.2).length : Int) (fun r => []) hA rfl rfl True.intro (fun as h => match as, h with | [], _ => rfl) (fun _ => rfl) (fun r as h => match as, h with | [], _ => rfl) (fun r j z => nomatch z) .nil (hm.bindR.imp (fun r15 hm v H hA => ?_) fun _ q => q)
            refine wk_list (xs := r15) (e := (eT eI)) hA (f_for (e := (eT eI)) (fun (s16 : Bool) => [none, some (.own none (.lst (List.map eI s4.1))), some (.dat (eB dividing_3)), some (.dat ((eP2 eI eI) r7)), none, some (.dat (eB s16)), none, some (.dat ((eT (eP3 eI eI eI)) s4.2)), none, none, none, none]) (s0 := false) (.d (.s (.s (.s (.d (.s (.d (.s (.d (.d (.d (.d .nil)))))))))))) hm (hb_of (e := (eT eI)) (js := [6]) (ps := fun b17 => [(eT eI) b17]) (fun b => tj_name) (hjl (n := 12) (fun s => rfl) (by decide)) (fun s16 b17 => ?_)) (fun s16 => ?_))
            ·
              change BJ K _ [none, some (.own none (.lst (List.map eI s4.1))), some (.dat (eB dividing_3)), some (.dat ((eP2 eI eI) r7)), none, some (.dat (eB s16)), some (.dat ((eT eI) b17)), some (.dat ((eT (eP3 eI eI eI)) s4.2)), none, none, none, none] _ _ _ _ _
              refine fun g σ H D hA hm => x_asg ?_
              refine x_cb1 ?_
              refine x_lcT ?_
              refine (ev_var rfl) _ _ _ _ _ hA fun v H hA => ?_
              refine wk_tup (xs := b17) (e := eI) hA (f_lcW (e := eI) (enc := (eP3 eI eI eI)) (js := [10]) (ps := fun b18 => [eI b18]) (fun (s19 : Unit) => [none, some (.own none (.lst (List.map eI s4.1))), some (.dat (eB dividing_3)), some (.dat ((eP2 eI eI) r7)), none, some (.dat (eB s16)), some (.dat ((eT eI) b17)), some (.dat ((eT (eP3 eI eI eI)) s4.2)), none, none, none, none]) (()) (fun b => tj_name) (by decide) (hnl fun s => rfl) (hnl fun s => rfl) (by decide) (lj_fwd fun s19 b18 g σ τ H Q Qn hA hm => ?_) hm (fun r20 v H hA hm => ?_))
              ·
                replace hA : At K g [none, some (.own none (.lst (List.map eI s4.1))), some (.dat (eB dividing_3)), some (.dat ((eP2 eI eI) r7)), none, some (.dat (eB s16)), some (.dat ((eT eI) b17)), some (.dat ((eT (eP3 eI eI eI)) s4.2)), none, none, some (.dat (eI b18)), none] _ _ _ := hA
                refine x_yes ?_
                refine x_op ?_
                refine (ev_var rfl) _ _ _ _ _ hA fun v H hA => ?_
                refine (ev_var rfl) _ _ _ _ _ hA fun v H hA => ?_
                refine f_o2m (o2_idxT (xs := s4.2) (e := (eP3 eI eI eI))) hA hm fun t21 v H hA hm => ?_
                exact hm v H hA
              ·
                replace hA : At K g [none, some (.own none (.lst (List.map eI s4.1))), some (.dat (eB dividing_3)), some (.dat ((eP2 eI eI) r7)), none, some (.dat (eB s16)), some (.dat ((eT eI) b17)), some (.dat ((eT (eP3 eI eI eI)) s4.2)), none, none, none, none] _ _ _ := hA
                refine o1_tuple (.l .own) _ _ _ _ _ _ hA fun v H hA => ?_
                refine f_setgo hA (fun j z => nomatch z) rfl hm ?_
                change BJ K _ [none, some (.own none (.lst (List.map eI s4.1))), some (.dat (eB dividing_3)), some (.dat ((eP2 eI eI) r7)), none, some (.dat (eB s16)), some (.dat ((eT eI) b17)), some (.dat ((eT (eP3 eI eI eI)) s4.2)), some (.dat ((eT (eP3 eI eI eI)) r20.2)), none, none, none] _ _ _ _ _
                refine fun g σ H D hA hm => x_asg ?_
                refine x_call1 ?_
                refine (ev_var rfl) _ _ _ _ _ hA fun v H hA => ?_
                refine f_call [.d ((eT (eP3 eI eI eI)) r20.2)] r20.2 (fun r => []) hA rfl rfl True.intro (fun as h => match as, h with | [], _ => rfl) (fun _ => rfl) (fun r as h => match as, h with | [], _ => rfl) (fun r j z => nomatch z) .nil (hm.bindR.imp (fun r22 hm v H hA => ?_) fun _ q => q)
                refine f_setgo hA (fun j z => nomatch z) rfl hm ?_
                change BJ K _ [none, some (.own none (.lst (List.map eI s4.1))), some (.dat (eB dividing_3)), some (.dat ((eP2 eI eI) r7)), none, some (.dat (eB s16)), some (.dat ((eT eI) b17)), some (.dat ((eT (eP3 eI eI eI)) s4.2)), some (.dat ((eT (eP3 eI eI eI)) r20.2)), some (.dat (eB r22)), none, none] _ _ _ _ _
                refine fun g σ H D hA hm => x_asg ?_
                refine (ev_orV (ev_var rfl) (ev_var rfl)) _ _ _ _ _ hA fun v H hA => ?_
                refine f_setlt (e := (s16 || r22)) (fun t => .dat (eB t)) hA (fun t j z => nomatch z) rfl hm (fun some_23 => ?_)
                change BJ K _ [none, some (.own none (.lst (List.map eI s4.1))), some (.dat (eB dividing_3)), some (.dat ((eP2 eI eI) r7)), none, some (.dat (eB some_23)), some (.dat ((eT eI) b17)), some (.dat ((eT (eP3 eI eI eI)) s4.2)), some (.dat ((eT (eP3 eI eI eI)) r20.2)), some (.dat (eB r22)), none, none] _ _ _ _ _
                refine fun g σ H D hA hm => x_asg ?_
                refine x_call1 ?_
                refine (ev_var rfl) _ _ _ _ _ hA fun v H hA => ?_
                replace hA := hA.box (Bx.hd (bx_t (bx_p3 bx_i bx_i bx_i)))
                refine f_call [.d (eD ((dT (dP3 PyData.int PyData.int PyData.int)) r20.2))] ((dT (dP3 PyData.int PyData.int PyData.int)) r20.2) (fun r => []) hA rfl rfl True.intro (fun as h => match as, h with | [], _ => rfl) (fun _ => rfl) (fun r as h => match as, h with | [], _ => rfl) (fun r j z => nomatch z) .nil (hm.bindR.imp (fun r24 hm v H hA => ?_) fun _ q => q)
                refine f_setgo hA (fun j z => nomatch z) rfl hm ?_
                change BJ K _ [none, some (.own none (.lst (List.map eI s4.1))), some (.dat (eB dividing_3)), some (.dat ((eP2 eI eI) r7)), some (.dat (eB r24)), some (.dat (eB some_23)), some (.dat ((eT eI) b17)), some (.dat ((eT (eP3 eI eI eI)) s4.2)), some (.dat ((eT (eP3 eI eI eI)) r20.2)), some (.dat (eB r22)), none, none] _ _ _ _ _
                refine bj_ifL (evb_or (evb_not (evb_B (ev_isi (d := (PyData.bool r24)) .bool (ev_var rfl) (.dat bx_b)))) (evb_test (ev_op (ev_var rfl) (ev_var rfl) o2_neB))) ?_ ?_
                ·
                  refine bj_assoc ?_
                  refine fun g σ H D hA hm => x_ret ?_
                  refine ev_bl _ _ _ _ _ hA fun v H hA => ?_
                  exact hm v H _ (hA.weak1 (.d .nil) fun j z => nomatch z)
                ·
                  refine bj_pass ?_
                  exact bj_nx (a := some_23) (.d (.s (.s (.s (.d (.s (.d (.s (.d (.d (.d (.d .nil))))))))))))
            ·
              change BJ K _ [none, some (.own none (.lst (List.map eI s4.1))), some (.dat (eB dividing_3)), some (.dat ((eP2 eI eI) r7)), none, some (.dat (eB s16)), none, some (.dat ((eT (eP3 eI eI eI)) s4.2)), none, none, none, none] _ _ _ _ _
              refine fun g σ H D hA hm => x_ifS ?_
              refine x_test ?_
              refine x_op ?_
              refine x_call1 ?_
              refine x_cb1 ?_
              refine x_lcT ?_
              refine x_call1 ?_
              refine (ev_var rfl) _ _ _ _ _ hA fun v H hA => ?_
              replace hA := hA.box (Bx.hd (bx_t (bx_p3 bx_i bx_i bx_i)))
              refine f_call [.d (eD ((dT (dP3 PyData.int PyData.int PyData.int)) s4.2))] ((dT (dP3 PyData.int PyData.int PyData.int)) s4.2) (fun r => []) hA rfl rfl True.intro (fun as h => match as, h with | [], _ => rfl) (fun _ => rfl) (fun r as h => match as, h with | [], _ => rfl) (fun r j z => nomatch z) .nil (hm.bindR.imp (fun r25 hm v H hA => ?_) fun _ q => q)
              refine wk_tup (xs := r25) (e := eI) hA (f_lcW (e := eI) (enc := (eP3 eI eI eI)) (js := [10]) (ps := fun b26 => [eI b26]) (fun (s27 : Unit) => [none, some (.own none (.lst (List.map eI s4.1))), some (.dat (eB dividing_3)), some (.dat ((eP2 eI eI) r7)), none, some (.dat (eB s16)), none, some (.dat ((eT (eP3 eI eI eI)) s4.2)), none, none, none, none]) (()) (fun b => tj_name) (by decide) (hnl fun s => rfl) (hnl fun s => rfl) (by decide) (lj_fwd fun s27 b26 g σ τ H Q Qn hA hm => ?_) hm (fun r28 v H hA hm => ?_))
              ·
                replace hA : At K g [none, some (.own none (.lst (List.map eI s4.1))), some (.dat (eB dividing_3)), some (.dat ((eP2 eI eI) r7)), none, some (.dat (eB s16)), none, some (.dat ((eT (eP3 eI eI eI)) s4.2)), none, none, some (.dat (eI b26)), none] _ _ _ := hA
                refine x_yes ?_
                refine x_op ?_
                refine (ev_var rfl) _ _ _ _ _ hA fun v H hA => ?_
                refine (ev_var rfl) _ _ _ _ _ hA fun v H hA => ?_
                refine f_o2m (o2_idxT (xs := s4.2) (e := (eP3 eI eI eI))) hA hm fun t29 v H hA hm => ?_
                exact hm v H hA
              ·
                replace hA : At K g [none, some (.own none (.lst (List.map eI s4.1))), some (.dat (eB dividing_3)), some (.dat ((eP2 eI eI) r7)), none, some (.dat (eB s16)), none, some (.dat ((eT (eP3 eI eI eI)) s4.2)), none, none, none, none] _ _ _ := hA
                refine o1_tuple (.l .own) _ _ _ _ _ _ hA fun v H hA => ?_
                replace hA := hA.box (Bx.hd (bx_t (bx_p3 bx_i bx_i bx_i)))
                refine f_call [.d (eD ((dT (dP3 PyData.int PyData.int PyData.int)) r28.2))] ((dT (dP3 PyData.int PyData.int PyData.int)) r28.2) (fun r => []) hA rfl rfl True.intro (fun as h => match as, h with | [], _ => rfl) (fun _ => rfl) (fun r as h => match as, h with | [], _ => rfl) (fun r j z => nomatch z) .nil (hm.bindR.imp (fun r30 hm v H hA => ?_) fun _ q => q)
                refine (ev_var rfl) _ _ _ _ _ hA fun v H hA => ?_
                refine o2_neB _ _ _ _ _ _ _ hA fun v H hA => ?_
                refine f_tst (P := fun c H1 => _) hA fun hA => ?_
                refine f_ifS hm (fun hm => ?_) (fun hm => ?_)
                ·
                  refine bj_go hA hm ?_
                  change BJ K _ [none, some (.own none (.lst (List.map eI s4.1))), some (.dat (eB dividing_3)), some (.dat ((eP2 eI eI) r7)), none, some (.dat (eB s16)), none, some (.dat ((eT (eP3 eI eI eI)) s4.2)), none, none, none, none] _ _ _ _ _
                  refine bj_assoc ?_
                  refine fun g σ H D hA hm => x_ret ?_
                  refine ev_bl _ _ _ _ _ hA fun v H hA => ?_
                  exact hm v H _ (hA.weak1 (.d .nil) fun j z => nomatch z)
                ·
                  refine bj_go hA hm ?_
                  change BJ K _ [none, some (.own none (.lst (List.map eI s4.1))), some (.dat (eB dividing_3)), some (.dat ((eP2 eI eI) r7)), none, some (.dat (eB s16)), none, some (.dat ((eT (eP3 eI eI eI)) s4.2)), none, none, none, none] _ _ _ _ _
                  refine bj_pass ?_
                  refine fun g σ H D hA hm => x_ifS ?_
                  refine f_joinT (fun (s : Bool) => [none, some (.own none (.lst (List.map eI s4.1))), some (.dat (eB dividing_3)), some (.dat ((eP2 eI eI) r7)), none, some (.dat (eB s16)), none, some (.dat ((eT (eP3 eI eI eI)) s4.2)), none, none, none, none]) (fun s => s) hA hm (fun hm => ?_) (fun j31 H hA hm => ?_)
                  ·
                    refine x_andT ?_
                    refine (evb_B (ev_var rfl)) _ _ _ _ _ hA fun H hA => ?_
                    refine f_pick hm (fun hm => ?_) (fun hm => ?_)
                    ·
                      refine x_test ?_
                      refine x_op ?_
                      refine x_call1 ?_
                      refine (ev_var rfl) _ _ _ _ _ hA fun v H hA => ?_
                      replace hA := hA.box (Bx.hd (bx_t (bx_p3 bx_i bx_i bx_i)))
                      refine f_call [.d (eD ((dT (dP3 PyData.int PyData.int PyData.int)) s4.2))] ((dT (dP3 PyData.int PyData.int PyData.int)) s4.2) (fun r => []) hA rfl rfl True.intro (fun as h => match as, h with | [], _ => rfl) (fun _ => rfl) (fun r as h => match as, h with | [], _ => rfl) (fun r j z => nomatch z) .nil (hm.bindR.imp (fun r32 hm v H hA => ?_) fun _ q => q)
                      refine (ev_op (ev_op (ev_var rfl) ev_int (o2_ixK (p := eI r7.1))) (ev_op (ev_var rfl) ev_int (o2_ixK (p := eI r7.2))) o2_c0) _ _ _ _ _ hA fun v H hA => ?_
                      refine o2_neB _ _ _ _ _ _ _ hA fun v H hA => ?_
                      refine f_tst (P := fun c H1 => _) hA fun hA => ?_
                      exact hm H hA
                    ·
                      exact hm H hA
                  ·
                    replace hA : At K g [none, some (.own none (.lst (List.map eI s4.1))), some (.dat (eB dividing_3)), some (.dat ((eP2 eI eI) r7)), none, some (.dat (eB s16)), none, some (.dat ((eT (eP3 eI eI eI)) s4.2)), none, none, none, none] _ _ _ := hA
                    refine f_ifS hm (fun hm => ?_) (fun hm => ?_)
                    ·
                      refine bj_go hA hm ?_
                      change BJ K _ [none, some (.own none (.lst (List.map eI s4.1))), some (.dat (eB dividing_3)), some (.dat ((eP2 eI eI) r7)), none, some (.dat (eB s16)), none, some (.dat ((eT (eP3 eI eI eI)) s4.2)), none, none, none, none] _ _ _ _ _
                      refine bj_assoc ?_
                      refine fun g σ H D hA hm => x_ret ?_
                      refine ev_bl _ _ _ _ _ hA fun v H hA => ?_
                      exact hm v H _ (hA.weak1 (.d .nil) fun j z => nomatch z)
                    ·
                      refine bj_go hA hm ?_
                      change BJ K _ [none, some (.own none (.lst (List.map eI s4.1))), some (.dat (eB dividing_3)), some (.dat ((eP2 eI eI) r7)), none, some (.dat (eB s16)), none, some (.dat ((eT (eP3 eI eI eI)) s4.2)), none, none, none, none] _ _ _ _ _
                      refine bj_pass ?_
                      refine fun g σ H D hA hm => x_ifS ?_
                      refine x_test ?_
                      refine x_op ?_
                      refine x_call1 ?_
                      refine x_lcT ?_
                      refine (ev_var rfl) _ _ _ _ _ hA fun v H hA => ?_
                      refine wk_tup (xs := s4.2) (e := (eP3 eI eI eI)) hA (f_lcW (e := (eP3 eI eI eI)) (enc := (eL eI)) (js := [11]) (ps := fun b33 => [(eP3 eI eI eI) b33]) (fun (s34 : Unit) => [none, some (.own none (.lst (List.map eI s4.1))), some (.dat (eB dividing_3)), some (.dat ((eP2 eI eI) r7)), none, some (.dat (eB s16)), none, some (.dat ((eT (eP3 eI eI eI)) s4.2)), none, none, none, none]) (()) (fun b => tj_name) (by decide) (hnl fun s => rfl) (hnl fun s => rfl) (by decide) (lj_fwd fun s34 b33 g σ τ H Q Qn hA hm => ?_) hm (fun r35 v H hA hm => ?_))
                      ·
                        replace hA : At K g [none, some (.own none (.lst (List.map eI s4.1))), some (.dat (eB dividing_3)), some (.dat ((eP2 eI eI) r7)), none, some (.dat (eB s16)), none, some (.dat ((eT (eP3 eI eI eI)) s4.2)), none, none, none, some (.dat ((eP3 eI eI eI) b33))] _ _ _ := hA
                        refine x_yes ?_
                        refine (ev_cb1 (ev_var rfl) (o1_list (ps := [eI b33.1, eI b33.2.1, eI b33.2.2]) .t)) _ _ _ _ _ hA fun v H hA => ?_
                        replace hA := hA.frz
                        exact hm v H hA
                      ·
                        replace hA : At K g [none, some (.own none (.lst (List.map eI s4.1))), some (.dat (eB dividing_3)), some (.dat ((eP2 eI eI) r7)), none, some (.dat (eB s16)), none, some (.dat ((eT (eP3 eI eI eI)) s4.2)), none, none, none, none] _ _ _ := hA
                        replace hA := hA.frz
                        replace hA := hA.box (Bx.hd (bx_l (bx_l bx_i)))
                        refine f_call [.d (eD ((dL (dL PyData.int)) r35.2))] ((dL (dL PyData.int)) r35.2) (fun r => []) hA rfl rfl True.intro (fun as h => match as, h with | [], _ => rfl) (fun _ => rfl) (fun r as h => match as, h with | [], _ => rfl) (fun r j z => nomatch z) .nil (hm.bindR.imp (fun r36 hm v H hA => ?_) fun _ q => q)
                        refine x_call1 ?_
                        refine (ev_var rfl) _ _ _ _ _ hA fun v H hA => ?_
                        replace hA := hA.box (Bx.hd (bx_t (bx_p3 bx_i bx_i bx_i)))
                        refine f_call [.d (eD ((dT (dP3 PyData.int PyData.int PyData.int)) s4.2))] ((dT (dP3 PyData.int PyData.int PyData.int)) s4.2) (fun r => []) hA rfl rfl True.intro (fun as h => match as, h with | [], _ => rfl) (fun _ => rfl) (fun r as h => match as, h with | [], _ => rfl) (fun r j z => nomatch z) .nil (hm.bindR.imp (fun r37 hm v H hA => ?_) fun _ q => q)
                        refine o2_neB _ _ _ _ _ _ _ hA fun v H hA => ?_
                        refine f_tst (P := fun c H1 => _) hA fun hA => ?_
                        refine f_ifS hm (fun hm => ?_) (fun hm => ?_)
                        ·
                          refine bj_go hA hm ?_
                          change BJ K _ [none, some (.own none (.lst (List.map eI s4.1))), some (.dat (eB dividing_3)), some (.dat ((eP2 eI eI) r7)), none, some (.dat (eB s16)), none, some (.dat ((eT (eP3 eI eI eI)) s4.2)), none, none, none, none] _ _ _ _ _
                          refine bj_assoc ?_
                          refine fun g σ H D hA hm => x_ret ?_
                          refine ev_bl _ _ _ _ _ hA fun v H hA => ?_
                          exact hm v H _ (hA.weak1 (.d .nil) fun j z => nomatch z)
                        ·
                          refine bj_go hA hm ?_
                          change BJ K _ [none, some (.own none (.lst (List.map eI s4.1))), some (.dat (eB dividing_3)), some (.dat ((eP2 eI eI) r7)), none, some (.dat (eB s16)), none, some (.dat ((eT (eP3 eI eI eI)) s4.2)), none, none, none, none] _ _ _ _ _
                          refine bj_pass ?_
                          refine fun g σ H D hA hm => x_ret ?_
                          refine f_joinV (fun (s : (Bool × (List Int))) => [none, some (.own none (.lst (List.map eI s.2))), some (.dat (eB dividing_3)), some (.dat ((eP2 eI eI) r7)), none, some (.dat (eB s16)), none, some (.dat ((eT (eP3 eI eI eI)) s4.2)), none, none, none, none]) (fun s => .dat (eB s.1)) hA hm (fun hm => ?_) (fun j38 v H hA hm => ?_)
                          ·
                            refine x_andV ?_
                            refine x_op ?_
                            refine x_call1 ?_
                            refine x_lcT ?_
                            refine (ev_var rfl) _ _ _ _ _ hA fun v H hA => ?_
                            refine wk_tup (xs := s4.2) (e := (eP3 eI eI eI)) hA (f_lcW (e := (eP3 eI eI eI)) (enc := (eL eI)) (js := [11]) (ps := fun b39 => [(eP3 eI eI eI) b39]) (fun (s40 : Unit) => [none, some (.own none (.lst (List.map eI s4.1))), some (.dat (eB dividing_3)), some (.dat ((eP2 eI eI) r7)), none, some (.dat (eB s16)), none, some (.dat ((eT (eP3 eI eI eI)) s4.2)), none, none, none, none]) (()) (fun b => tj_name) (by decide) (hnl fun s => rfl) (hnl fun s => rfl) (by decide) (lj_fwd fun s40 b39 g σ τ H Q Qn hA hm => ?_) hm (fun r41 v H hA hm => ?_))
                            ·
                              replace hA : At K g [none, some (.own none (.lst (List.map eI s4.1))), some (.dat (eB dividing_3)), some (.dat ((eP2 eI eI) r7)), none, some (.dat (eB s16)), none, some (.dat ((eT (eP3 eI eI eI)) s4.2)), none, none, none, some (.dat ((eP3 eI eI eI) b39))] _ _ _ := hA
                              refine x_yes ?_
                              refine (ev_cb1 (ev_var rfl) (o1_list (ps := [eI b39.1, eI b39.2.1, eI b39.2.2]) .t)) _ _ _ _ _ hA fun v H hA => ?_
                              replace hA := hA.frz
                              exact hm v H hA
                            ·
                              replace hA : At K g [none, some (.own none (.lst (List.map eI s4.1))), some (.dat (eB dividing_3)), some (.dat ((eP2 eI eI) r7)), none, some (.dat (eB s16)), none, some (.dat ((eT (eP3 eI eI eI)) s4.2)), none, none, none, none] _ _ _ := hA
                              replace hA := hA.frz
                              replace hA := hA.box (Bx.hd (bx_l (bx_l bx_i)))
                              refine f_call [.d (eD ((dL (dL PyData.int)) r41.2))] ((dL (dL PyData.int)) r41.2) (fun r => []) hA rfl rfl True.intro (fun as h => match as, h with | [], _ => rfl) (fun _ => rfl) (fun r as h => match as, h with | [], _ => rfl) (fun r j z => nomatch z) .nil (hm.bindR.imp (fun r42 hm v H hA => ?_) fun _ q => q)
                              refine (ev_var rfl) _ _ _ _ _ hA fun v H hA => ?_
                              refine (o2_eqD (x := (r42 : (Int × Int))) (y := (r7 : (Int × Int))) (.dat (bx_p2 bx_i bx_i)) (.dat (bx_p2 bx_i bx_i)) (eq_p2 eq_i eq_i)) _ _ _ _ _ _ _ hA fun v H hA => ?_
                              refine f_tst (P := fun c H1 => _) hA fun hA => ?_
                              refine f_pick hm (fun hm => ?_) (fun hm => ?_)
                              ·
                                refine x_call2 ?_
                                refine (ev_own rfl) _ _ _ _ _ hA fun v H hA => ?_
                                refine (ev_var rfl) _ _ _ _ _ hA fun v H hA => ?_
                                refine f_call [.o 1 none (.lst (List.map eI s4.1)), .d ((eT (eP3 eI eI eI)) s4.2)] (s4.1, s4.2) (fun r => [.lst (List.map eI r.2)]) hA rfl rfl ⟨rfl, True.intro⟩ (fun as h => match as, h with | [_], _ => rfl) (fun _ => rfl) (fun r as h => match as, h with | [_], _ => rfl) (fun r j z => nomatch z) .nil (hm.bindR.imp (fun r43 hm v H hA => ?_) fun _ q => q)
                                replace hA : At K g [none, some (.own none (.lst (List.map eI r43.2))), some (.dat (eB dividing_3)), some (.dat ((eP2 eI eI) r7)), none, some (.dat (eB s16)), none, some (.dat ((eT (eP3 eI eI eI)) s4.2)), none, none, none, none] _ _ _ := hA
                                exact hm v H hA
                              ·
                                exact hm _ H (hA.scal fun _ => rfl)
                          ·
                            replace hA : At K g [none, some (.own none (.lst (List.map eI j38.2))), some (.dat (eB dividing_3)), some (.dat ((eP2 eI eI) r7)), none, some (.dat (eB s16)), none, some (.dat ((eT (eP3 eI eI eI)) s4.2)), none, none, none, none] _ _ _ := hA
                            exact hm v H _ (hA.weak1 (.d .nil) fun j z => nomatch z)
end
end Lw

set_option Elab.async false
set_option linter.all false
set_option maxRecDepth 100000
set_option maxHeartbeats 4000000
namespace Lw
open PySem L2 Gv PyProof.Rows
theorem all_mk (hlaw : ∀ ns : List Int, ns.length ≤ 63 → f_law ns = .nx true) {l : PySem.W.OpenLaw} {w : World} {K : PySem.W.Frag} {h : Heap} {mg : Str → Option Value} {fa f_is_whole f_whole_in f_check_jobs f_check_job_place f_rows_of_response f_response f_never_misses f_by_periods f_load f_law_numbers f_law_draw f_law_int f_law_any_jobs f_law_dividing f_law_lowest f_law_load f_law_well f_law_orders f_law_by_periods f_law_refused f_law_refusals_fit f_law c_BadNumber i_BadNumber c_TooMany i_TooMany : Addr} (X : K.In h) (G : h.Ns mainGlobals mg) (hfa : mg "law" = some (.ref fa))
    {od_is_whole an_is_whole od_whole_in an_whole_in od_check_jobs an_check_jobs od_check_job_place an_check_job_place od_rows_of_response an_rows_of_response od_response an_response od_never_misses an_never_misses od_by_periods an_by_periods od_load an_load od_law_numbers an_law_numbers od_law_draw an_law_draw od_law_int an_law_int od_law_any_jobs an_law_any_jobs od_law_dividing an_law_dividing od_law_lowest an_law_lowest od_law_load an_law_load od_law_well an_law_well od_law_orders an_law_orders od_law_by_periods an_law_by_periods od_law_refused an_law_refused od_law_refusals_fit an_law_refusals_fit od_law an_law od_IBadNumber an_IBadNumber od_ITooMany an_ITooMany : Option Addr} {sl_is_whole sl_whole_in sl_check_jobs sl_check_job_place sl_rows_of_response sl_response sl_never_misses sl_by_periods sl_load sl_law_numbers sl_law_draw sl_law_int sl_law_any_jobs sl_law_dividing sl_law_lowest sl_law_load sl_law_well sl_law_orders sl_law_by_periods sl_law_refused sl_law_refusals_fit sl_law sl_IBadNumber sl_ITooMany : Array (Option Value)} {oc_is_whole kV_is_whole dc_is_whole pm_is_whole cd_is_whole ct_is_whole oc_whole_in kV_whole_in dc_whole_in pm_whole_in cd_whole_in ct_whole_in oc_check_jobs kV_check_jobs dc_check_jobs pm_check_jobs cd_check_jobs ct_check_jobs oc_check_job_place kV_check_job_place dc_check_job_place pm_check_job_place cd_check_job_place ct_check_job_place oc_rows_of_response kV_rows_of_response dc_rows_of_response pm_rows_of_response cd_rows_of_response ct_rows_of_response oc_response kV_response dc_response pm_response cd_response ct_response oc_never_misses kV_never_misses dc_never_misses pm_never_misses cd_never_misses ct_never_misses oc_by_periods kV_by_periods dc_by_periods pm_by_periods cd_by_periods ct_by_periods oc_load kV_load dc_load pm_load cd_load ct_load oc_law_numbers kV_law_numbers dc_law_numbers pm_law_numbers cd_law_numbers ct_law_numbers oc_law_draw kV_law_draw dc_law_draw pm_law_draw cd_law_draw ct_law_draw oc_law_int kV_law_int dc_law_int pm_law_int cd_law_int ct_law_int oc_law_any_jobs kV_law_any_jobs dc_law_any_jobs pm_law_any_jobs cd_law_any_jobs ct_law_any_jobs oc_law_dividing kV_law_dividing dc_law_dividing pm_law_dividing cd_law_dividing ct_law_dividing oc_law_lowest kV_law_lowest dc_law_lowest pm_law_lowest cd_law_lowest ct_law_lowest oc_law_load kV_law_load dc_law_load pm_law_load cd_law_load ct_law_load oc_law_well kV_law_well dc_law_well pm_law_well cd_law_well ct_law_well oc_law_orders kV_law_orders dc_law_orders pm_law_orders cd_law_orders ct_law_orders oc_law_by_periods kV_law_by_periods dc_law_by_periods pm_law_by_periods cd_law_by_periods ct_law_by_periods oc_law_refused kV_law_refused dc_law_refused pm_law_refused cd_law_refused ct_law_refused oc_law_refusals_fit kV_law_refusals_fit dc_law_refusals_fit pm_law_refusals_fit cd_law_refusals_fit ct_law_refusals_fit oc_law kV_law dc_law pm_law cd_law ct_law oc_IBadNumber kV_IBadNumber dc_IBadNumber pm_IBadNumber cd_IBadNumber ct_IBadNumber oc_ITooMany kV_ITooMany dc_ITooMany pm_ITooMany cd_ITooMany ct_ITooMany : Value}
    {tk_LONGEST_JOB tk_MOST_JOBS tk_MOST_RUNGS : Tok}
    {nm_BadNumber qn_BadNumber : Str} {ns_BadNumber b0_BadNumber : Addr} {bs_BadNumber : List Value} {sn_BadNumber : List Str} {sb_BadNumber : List Value} {ab_BadNumber : Bool} {col_BadNumber : Option Bool} {dd_BadNumber : Option Addr} {m0_BadNumber m1_BadNumber m2_BadNumber m3_BadNumber m5_BadNumber : Option Value}
    {nm_TooMany qn_TooMany : Str} {ns_TooMany b0_TooMany : Addr} {bs_TooMany : List Value} {sn_TooMany : List Str} {sb_TooMany : List Value} {ab_TooMany : Bool} {col_TooMany : Option Bool} {dd_TooMany : Option Addr} {m0_TooMany m1_TooMany m2_TooMany m3_TooMany m5_TooMany : Option Value}
    (z_all : PySem.W.nsIn K mainGlobals "all" = some none)
    (z_bool : PySem.W.nsIn K mainGlobals "bool" = some none)
    (z_enumerate : PySem.W.nsIn K mainGlobals "enumerate" = some none)
    (z_int : PySem.W.nsIn K mainGlobals "int" = some none)
    (z_isinstance : PySem.W.nsIn K mainGlobals "isinstance" = some none)
    (z_len : PySem.W.nsIn K mainGlobals "len" = some none)
    (z_list : PySem.W.nsIn K mainGlobals "list" = some none)
    (z_max : PySem.W.nsIn K mainGlobals "max" = some none)
    (z_min : PySem.W.nsIn K mainGlobals "min" = some none)
    (z_range : PySem.W.nsIn K mainGlobals "range" = some none)
    (z_sorted : PySem.W.nsIn K mainGlobals "sorted" = some none)
    (z_str : PySem.W.nsIn K mainGlobals "str" = some none)
    (z_sum : PySem.W.nsIn K mainGlobals "sum" = some none)
    (z_tuple : PySem.W.nsIn K mainGlobals "tuple" = some none)
    (k_LONGEST_JOB : PySem.W.nsIn K mainGlobals "LONGEST_JOB" = some (some (.int 24 tk_LONGEST_JOB)))
    (k_MOST_JOBS : PySem.W.nsIn K mainGlobals "MOST_JOBS" = some (some (.int 5 tk_MOST_JOBS)))
    (k_MOST_RUNGS : PySem.W.nsIn K mainGlobals "MOST_RUNGS" = some (some (.int 12 tk_MOST_RUNGS)))
    (m_gcd : PySem.W.nsIn K mainGlobals "gcd" = some (some (.builtin "math.gcd")))
    (a_is_whole : PySem.W.nsIn K mainGlobals "_is_whole" = some (some (.ref f_is_whole)))
    (l_is_whole : K.lookup f_is_whole = some ⟨oc_is_whole, od_is_whole, .func (PySem.W.fnOf "_is_whole" "_is_whole" (defArgs st_is_whole) (defBody st_is_whole) (defScope st_is_whole) .none kV_is_whole dc_is_whole pm_is_whole an_is_whole cd_is_whole ct_is_whole), sl_is_whole⟩)
    (q_is_whole : PySem.W.codeIn K cd_is_whole "_is_whole" = true)
    (p_is_whole : PySem.W.keepIn K (.ref f_is_whole) = true)
    (a_whole_in : PySem.W.nsIn K mainGlobals "_whole_in" = some (some (.ref f_whole_in)))
    (l_whole_in : K.lookup f_whole_in = some ⟨oc_whole_in, od_whole_in, .func (PySem.W.fnOf "_whole_in" "_whole_in" (defArgs st_whole_in) (defBody st_whole_in) (defScope st_whole_in) .none kV_whole_in dc_whole_in pm_whole_in an_whole_in cd_whole_in ct_whole_in), sl_whole_in⟩)
    (q_whole_in : PySem.W.codeIn K cd_whole_in "_whole_in" = true)
    (p_whole_in : PySem.W.keepIn K (.ref f_whole_in) = true)
    (a_check_jobs : PySem.W.nsIn K mainGlobals "_check_jobs" = some (some (.ref f_check_jobs)))
    (l_check_jobs : K.lookup f_check_jobs = some ⟨oc_check_jobs, od_check_jobs, .func (PySem.W.fnOf "_check_jobs" "_check_jobs" (defArgs st_check_jobs) (defBody st_check_jobs) (defScope st_check_jobs) .none kV_check_jobs dc_check_jobs pm_check_jobs an_check_jobs cd_check_jobs ct_check_jobs), sl_check_jobs⟩)
    (q_check_jobs : PySem.W.codeIn K cd_check_jobs "_check_jobs" = true)
    (p_check_jobs : PySem.W.keepIn K (.ref f_check_jobs) = true)
    (a_check_job_place : PySem.W.nsIn K mainGlobals "_check_job_place" = some (some (.ref f_check_job_place)))
    (l_check_job_place : K.lookup f_check_job_place = some ⟨oc_check_job_place, od_check_job_place, .func (PySem.W.fnOf "_check_job_place" "_check_job_place" (defArgs st_check_job_place) (defBody st_check_job_place) (defScope st_check_job_place) .none kV_check_job_place dc_check_job_place pm_check_job_place an_check_job_place cd_check_job_place ct_check_job_place), sl_check_job_place⟩)
    (q_check_job_place : PySem.W.codeIn K cd_check_job_place "_check_job_place" = true)
    (p_check_job_place : PySem.W.keepIn K (.ref f_check_job_place) = true)
    (a_rows_of_response : PySem.W.nsIn K mainGlobals "rows_of_response" = some (some (.ref f_rows_of_response)))
    (l_rows_of_response : K.lookup f_rows_of_response = some ⟨oc_rows_of_response, od_rows_of_response, .func (PySem.W.fnOf "rows_of_response" "rows_of_response" (defArgs st_rows_of_response) (defBody st_rows_of_response) (defScope st_rows_of_response) .none kV_rows_of_response dc_rows_of_response pm_rows_of_response an_rows_of_response cd_rows_of_response ct_rows_of_response), sl_rows_of_response⟩)
    (q_rows_of_response : PySem.W.codeIn K cd_rows_of_response "rows_of_response" = true)
    (p_rows_of_response : PySem.W.keepIn K (.ref f_rows_of_response) = true)
    (a_response : PySem.W.nsIn K mainGlobals "response" = some (some (.ref f_response)))
    (l_response : K.lookup f_response = some ⟨oc_response, od_response, .func (PySem.W.fnOf "response" "response" (defArgs st_response) (defBody st_response) (defScope st_response) .none kV_response dc_response pm_response an_response cd_response ct_response), sl_response⟩)
    (q_response : PySem.W.codeIn K cd_response "response" = true)
    (p_response : PySem.W.keepIn K (.ref f_response) = true)
    (a_never_misses : PySem.W.nsIn K mainGlobals "never_misses" = some (some (.ref f_never_misses)))
    (l_never_misses : K.lookup f_never_misses = some ⟨oc_never_misses, od_never_misses, .func (PySem.W.fnOf "never_misses" "never_misses" (defArgs st_never_misses) (defBody st_never_misses) (defScope st_never_misses) .none kV_never_misses dc_never_misses pm_never_misses an_never_misses cd_never_misses ct_never_misses), sl_never_misses⟩)
    (q_never_misses : PySem.W.codeIn K cd_never_misses "never_misses" = true)
    (p_never_misses : PySem.W.keepIn K (.ref f_never_misses) = true)
    (a_by_periods : PySem.W.nsIn K mainGlobals "by_periods" = some (some (.ref f_by_periods)))
    (l_by_periods : K.lookup f_by_periods = some ⟨oc_by_periods, od_by_periods, .func (PySem.W.fnOf "by_periods" "by_periods" (defArgs st_by_periods) (defBody st_by_periods) (defScope st_by_periods) .none kV_by_periods dc_by_periods pm_by_periods an_by_periods cd_by_periods ct_by_periods), sl_by_periods⟩)
    (q_by_periods : PySem.W.codeIn K cd_by_periods "by_periods" = true)
    (p_by_periods : PySem.W.keepIn K (.ref f_by_periods) = true)
    (a_load : PySem.W.nsIn K mainGlobals "load" = some (some (.ref f_load)))
    (l_load : K.lookup f_load = some ⟨oc_load, od_load, .func (PySem.W.fnOf "load" "load" (defArgs st_load) (defBody st_load) (defScope st_load) .none kV_load dc_load pm_load an_load cd_load ct_load), sl_load⟩)
    (q_load : PySem.W.codeIn K cd_load "load" = true)
    (p_load : PySem.W.keepIn K (.ref f_load) = true)
    (a_law_numbers : PySem.W.nsIn K mainGlobals "_law_numbers" = some (some (.ref f_law_numbers)))
    (l_law_numbers : K.lookup f_law_numbers = some ⟨oc_law_numbers, od_law_numbers, .func (PySem.W.fnOf "_law_numbers" "_law_numbers" (defArgs st_law_numbers) (defBody st_law_numbers) (defScope st_law_numbers) .none kV_law_numbers dc_law_numbers pm_law_numbers an_law_numbers cd_law_numbers ct_law_numbers), sl_law_numbers⟩)
    (q_law_numbers : PySem.W.codeIn K cd_law_numbers "_law_numbers" = true)
    (p_law_numbers : PySem.W.keepIn K (.ref f_law_numbers) = true)
    (a_law_draw : PySem.W.nsIn K mainGlobals "_law_draw" = some (some (.ref f_law_draw)))
    (l_law_draw : K.lookup f_law_draw = some ⟨oc_law_draw, od_law_draw, .func (PySem.W.fnOf "_law_draw" "_law_draw" (defArgs st_law_draw) (defBody st_law_draw) (defScope st_law_draw) .none kV_law_draw dc_law_draw pm_law_draw an_law_draw cd_law_draw ct_law_draw), sl_law_draw⟩)
    (q_law_draw : PySem.W.codeIn K cd_law_draw "_law_draw" = true)
    (p_law_draw : PySem.W.keepIn K (.ref f_law_draw) = true)
    (a_law_int : PySem.W.nsIn K mainGlobals "_law_int" = some (some (.ref f_law_int)))
    (l_law_int : K.lookup f_law_int = some ⟨oc_law_int, od_law_int, .func (PySem.W.fnOf "_law_int" "_law_int" (defArgs st_law_int) (defBody st_law_int) (defScope st_law_int) .none kV_law_int dc_law_int pm_law_int an_law_int cd_law_int ct_law_int), sl_law_int⟩)
    (q_law_int : PySem.W.codeIn K cd_law_int "_law_int" = true)
    (p_law_int : PySem.W.keepIn K (.ref f_law_int) = true)
    (a_law_any_jobs : PySem.W.nsIn K mainGlobals "_law_any_jobs" = some (some (.ref f_law_any_jobs)))
    (l_law_any_jobs : K.lookup f_law_any_jobs = some ⟨oc_law_any_jobs, od_law_any_jobs, .func (PySem.W.fnOf "_law_any_jobs" "_law_any_jobs" (defArgs st_law_any_jobs) (defBody st_law_any_jobs) (defScope st_law_any_jobs) .none kV_law_any_jobs dc_law_any_jobs pm_law_any_jobs an_law_any_jobs cd_law_any_jobs ct_law_any_jobs), sl_law_any_jobs⟩)
    (q_law_any_jobs : PySem.W.codeIn K cd_law_any_jobs "_law_any_jobs" = true)
    (p_law_any_jobs : PySem.W.keepIn K (.ref f_law_any_jobs) = true)
    (a_law_dividing : PySem.W.nsIn K mainGlobals "_law_dividing" = some (some (.ref f_law_dividing)))
    (l_law_dividing : K.lookup f_law_dividing = some ⟨oc_law_dividing, od_law_dividing, .func (PySem.W.fnOf "_law_dividing" "_law_dividing" (defArgs st_law_dividing) (defBody st_law_dividing) (defScope st_law_dividing) .none kV_law_dividing dc_law_dividing pm_law_dividing an_law_dividing cd_law_dividing ct_law_dividing), sl_law_dividing⟩)
    (q_law_dividing : PySem.W.codeIn K cd_law_dividing "_law_dividing" = true)
    (p_law_dividing : PySem.W.keepIn K (.ref f_law_dividing) = true)
    (a_law_lowest : PySem.W.nsIn K mainGlobals "_law_lowest" = some (some (.ref f_law_lowest)))
    (l_law_lowest : K.lookup f_law_lowest = some ⟨oc_law_lowest, od_law_lowest, .func (PySem.W.fnOf "_law_lowest" "_law_lowest" (defArgs st_law_lowest) (defBody st_law_lowest) (defScope st_law_lowest) .none kV_law_lowest dc_law_lowest pm_law_lowest an_law_lowest cd_law_lowest ct_law_lowest), sl_law_lowest⟩)
    (q_law_lowest : PySem.W.codeIn K cd_law_lowest "_law_lowest" = true)
    (p_law_lowest : PySem.W.keepIn K (.ref f_law_lowest) = true)
    (a_law_load : PySem.W.nsIn K mainGlobals "_law_load" = some (some (.ref f_law_load)))
    (l_law_load : K.lookup f_law_load = some ⟨oc_law_load, od_law_load, .func (PySem.W.fnOf "_law_load" "_law_load" (defArgs st_law_load) (defBody st_law_load) (defScope st_law_load) .none kV_law_load dc_law_load pm_law_load an_law_load cd_law_load ct_law_load), sl_law_load⟩)
    (q_law_load : PySem.W.codeIn K cd_law_load "_law_load" = true)
    (p_law_load : PySem.W.keepIn K (.ref f_law_load) = true)
    (a_law_well : PySem.W.nsIn K mainGlobals "_law_well" = some (some (.ref f_law_well)))
    (l_law_well : K.lookup f_law_well = some ⟨oc_law_well, od_law_well, .func (PySem.W.fnOf "_law_well" "_law_well" (defArgs st_law_well) (defBody st_law_well) (defScope st_law_well) .none kV_law_well dc_law_well pm_law_well an_law_well cd_law_well ct_law_well), sl_law_well⟩)
    (q_law_well : PySem.W.codeIn K cd_law_well "_law_well" = true)
    (p_law_well : PySem.W.keepIn K (.ref f_law_well) = true)
    (a_law_orders : PySem.W.nsIn K mainGlobals "_law_orders" = some (some (.ref f_law_orders)))
    (l_law_orders : K.lookup f_law_orders = some ⟨oc_law_orders, od_law_orders, .func (PySem.W.fnOf "_law_orders" "_law_orders" (defArgs st_law_orders) (defBody st_law_orders) (defScope st_law_orders) .none kV_law_orders dc_law_orders pm_law_orders an_law_orders cd_law_orders ct_law_orders), sl_law_orders⟩)
    (q_law_orders : PySem.W.codeIn K cd_law_orders "_law_orders" = true)
    (p_law_orders : PySem.W.keepIn K (.ref f_law_orders) = true)
    (a_law_by_periods : PySem.W.nsIn K mainGlobals "_law_by_periods" = some (some (.ref f_law_by_periods)))
    (l_law_by_periods : K.lookup f_law_by_periods = some ⟨oc_law_by_periods, od_law_by_periods, .func (PySem.W.fnOf "_law_by_periods" "_law_by_periods" (defArgs st_law_by_periods) (defBody st_law_by_periods) (defScope st_law_by_periods) .none kV_law_by_periods dc_law_by_periods pm_law_by_periods an_law_by_periods cd_law_by_periods ct_law_by_periods), sl_law_by_periods⟩)
    (q_law_by_periods : PySem.W.codeIn K cd_law_by_periods "_law_by_periods" = true)
    (p_law_by_periods : PySem.W.keepIn K (.ref f_law_by_periods) = true)
    (a_law_refused : PySem.W.nsIn K mainGlobals "_law_refused" = some (some (.ref f_law_refused)))
    (l_law_refused : K.lookup f_law_refused = some ⟨oc_law_refused, od_law_refused, .func (PySem.W.fnOf "_law_refused" "_law_refused" (defArgs st_law_refused) (defBody st_law_refused) (defScope st_law_refused) .none kV_law_refused dc_law_refused pm_law_refused an_law_refused cd_law_refused ct_law_refused), sl_law_refused⟩)
    (q_law_refused : PySem.W.codeIn K cd_law_refused "_law_refused" = true)
    (p_law_refused : PySem.W.keepIn K (.ref f_law_refused) = true)
    (a_law_refusals_fit : PySem.W.nsIn K mainGlobals "_law_refusals_fit" = some (some (.ref f_law_refusals_fit)))
    (l_law_refusals_fit : K.lookup f_law_refusals_fit = some ⟨oc_law_refusals_fit, od_law_refusals_fit, .func (PySem.W.fnOf "_law_refusals_fit" "_law_refusals_fit" (defArgs st_law_refusals_fit) (defBody st_law_refusals_fit) (defScope st_law_refusals_fit) .none kV_law_refusals_fit dc_law_refusals_fit pm_law_refusals_fit an_law_refusals_fit cd_law_refusals_fit ct_law_refusals_fit), sl_law_refusals_fit⟩)
    (q_law_refusals_fit : PySem.W.codeIn K cd_law_refusals_fit "_law_refusals_fit" = true)
    (p_law_refusals_fit : PySem.W.keepIn K (.ref f_law_refusals_fit) = true)
    (a_law : PySem.W.nsIn K mainGlobals "law" = some (some (.ref f_law)))
    (l_law : K.lookup f_law = some ⟨oc_law, od_law, .func (PySem.W.fnOf "law" "law" (defArgs st_law) (defBody st_law) (defScope st_law) .none kV_law dc_law pm_law an_law cd_law ct_law), sl_law⟩)
    (q_law : PySem.W.codeIn K cd_law "law" = true)
    (p_law : PySem.W.keepIn K (.ref f_law) = true)
    (a_c_BadNumber : PySem.W.nsIn K mainGlobals "BadNumber" = some (some (.ref c_BadNumber)))
    (xL_BadNumber : K.lookup c_BadNumber = some (excClassObj nm_BadNumber qn_BadNumber c_BadNumber ns_BadNumber bs_BadNumber [.ref b0_BadNumber, .type "ValueError", .type "Exception", .type "BaseException", .type "object"] true sn_BadNumber sb_BadNumber ab_BadNumber col_BadNumber dd_BadNumber m0_BadNumber m1_BadNumber m2_BadNumber m3_BadNumber m5_BadNumber "ValueError.__new__"))
    (sa_BadNumber : PySem.W.findIn K (.ref c_BadNumber) "__setattr__" = some (some (.builtin "object.__setattr__")))
    (ga_BadNumber : PySem.W.findIn K (.ref c_BadNumber) "__getattribute__" = some (some (.builtin "BaseException.__getattribute__")))
    (gg_BadNumber : PySem.W.findIn K (.ref c_BadNumber) "__getattr__" = some none)
    (n_BadNumber_word : PySem.W.findIn K (.ref c_BadNumber) "word" = some none)
    (in_BadNumber : PySem.W.findIn K (.ref c_BadNumber) "__init__" = some (some (.ref i_BadNumber)))
    (ti_BadNumber : PySem.W.typeIn K (.ref i_BadNumber) = some (.type "function"))
    (l_IBadNumber : K.lookup i_BadNumber = some ⟨oc_IBadNumber, od_IBadNumber, .func (PySem.W.fnOf "__init__" "BadNumber.__init__" (defArgs sti_BadNumber) (defBody sti_BadNumber) (defScope sti_BadNumber) .none kV_IBadNumber dc_IBadNumber pm_IBadNumber an_IBadNumber cd_IBadNumber ct_IBadNumber), sl_IBadNumber⟩)
    (q_IBadNumber : PySem.W.codeIn K cd_IBadNumber "BadNumber.__init__" = true)
    (p_IBadNumber : PySem.W.keepIn K (.ref i_BadNumber) = true)
    (kC_BadNumber : PySem.W.keepIn K (.ref c_BadNumber) = true)
    (eC_BadNumber : PySem.W.subIn K (.ref c_BadNumber) (.type "BaseException") = some true)
    (tC_BadNumber : PySem.W.typeIn K (.ref c_BadNumber) = some (.type "type"))
    (hC_BadNumber : PySem.W.hasDictIn K c_BadNumber = true)
    (iC_BadNumber : PySem.W.isClsIn K c_BadNumber = true)
    (a_c_TooMany : PySem.W.nsIn K mainGlobals "TooMany" = some (some (.ref c_TooMany)))
    (xL_TooMany : K.lookup c_TooMany = some (excClassObj nm_TooMany qn_TooMany c_TooMany ns_TooMany bs_TooMany [.ref b0_TooMany, .type "ValueError", .type "Exception", .type "BaseException", .type "object"] true sn_TooMany sb_TooMany ab_TooMany col_TooMany dd_TooMany m0_TooMany m1_TooMany m2_TooMany m3_TooMany m5_TooMany "ValueError.__new__"))
    (sa_TooMany : PySem.W.findIn K (.ref c_TooMany) "__setattr__" = some (some (.builtin "object.__setattr__")))
    (ga_TooMany : PySem.W.findIn K (.ref c_TooMany) "__getattribute__" = some (some (.builtin "BaseException.__getattribute__")))
    (gg_TooMany : PySem.W.findIn K (.ref c_TooMany) "__getattr__" = some none)
    (n_TooMany_limit : PySem.W.findIn K (.ref c_TooMany) "limit" = some none)
    (in_TooMany : PySem.W.findIn K (.ref c_TooMany) "__init__" = some (some (.ref i_TooMany)))
    (ti_TooMany : PySem.W.typeIn K (.ref i_TooMany) = some (.type "function"))
    (l_ITooMany : K.lookup i_TooMany = some ⟨oc_ITooMany, od_ITooMany, .func (PySem.W.fnOf "__init__" "TooMany.__init__" (defArgs sti_TooMany) (defBody sti_TooMany) (defScope sti_TooMany) .none kV_ITooMany dc_ITooMany pm_ITooMany an_ITooMany cd_ITooMany ct_ITooMany), sl_ITooMany⟩)
    (q_ITooMany : PySem.W.codeIn K cd_ITooMany "TooMany.__init__" = true)
    (p_ITooMany : PySem.W.keepIn K (.ref i_TooMany) = true)
    (kC_TooMany : PySem.W.keepIn K (.ref c_TooMany) = true)
    (eC_TooMany : PySem.W.subIn K (.ref c_TooMany) (.type "BaseException") = some true)
    (tC_TooMany : PySem.W.typeIn K (.ref c_TooMany) = some (.type "type"))
    (hC_TooMany : PySem.W.hasDictIn K c_TooMany = true)
    (iC_TooMany : PySem.W.isClsIn K c_TooMany = true)
    (s_BadNumber_BadNumber : PySem.W.subIn K (.ref c_BadNumber) (.ref c_BadNumber) = some true)
    (s_TooMany_BadNumber : PySem.W.subIn K (.ref c_TooMany) (.ref c_BadNumber) = some false)
    (s_BadNumber_TooMany : PySem.W.subIn K (.ref c_BadNumber) (.ref c_TooMany) = some false)
    (s_TooMany_TooMany : PySem.W.subIn K (.ref c_TooMany) (.ref c_TooMany) = some true) :
    ∃ fd : FuncData, (∀ (s : Shared) (v : Value), BindsTo s fd ⟨[v], []⟩ [("script", v)]) ∧ ∀ base : Heap, K.In base → base.Ns mainGlobals mg → FnOk l.prog w K mg base (L2.CX l.prog w) 9 fa fd ["script"] (spLaw K 63) := by
  have e := hfa.symm.trans (PySem.W.mg_of X G a_law)
  cases e
  have F_is_whole := fun_mk (st := st_is_whole) l_is_whole q_is_whole p_is_whole
  have F_whole_in := fun_mk (st := st_whole_in) l_whole_in q_whole_in p_whole_in
  have F_check_jobs := fun_mk (st := st_check_jobs) l_check_jobs q_check_jobs p_check_jobs
  have F_check_job_place := fun_mk (st := st_check_job_place) l_check_job_place q_check_job_place p_check_job_place
  have F_rows_of_response := fun_mk (st := st_rows_of_response) l_rows_of_response q_rows_of_response p_rows_of_response
  have F_response := fun_mk (st := st_response) l_response q_response p_response
  have F_never_misses := fun_mk (st := st_never_misses) l_never_misses q_never_misses p_never_misses
  have F_by_periods := fun_mk (st := st_by_periods) l_by_periods q_by_periods p_by_periods
  have F_load := fun_mk (st := st_load) l_load q_load p_load
  have F_law_numbers := fun_mk (st := st_law_numbers) l_law_numbers q_law_numbers p_law_numbers
  have F_law_draw := fun_mk (st := st_law_draw) l_law_draw q_law_draw p_law_draw
  have F_law_int := fun_mk (st := st_law_int) l_law_int q_law_int p_law_int
  have F_law_any_jobs := fun_mk (st := st_law_any_jobs) l_law_any_jobs q_law_any_jobs p_law_any_jobs
  have F_law_dividing := fun_mk (st := st_law_dividing) l_law_dividing q_law_dividing p_law_dividing
  have F_law_lowest := fun_mk (st := st_law_lowest) l_law_lowest q_law_lowest p_law_lowest
  have F_law_load := fun_mk (st := st_law_load) l_law_load q_law_load p_law_load
  have F_law_well := fun_mk (st := st_law_well) l_law_well q_law_well p_law_well
  have F_law_orders := fun_mk (st := st_law_orders) l_law_orders q_law_orders p_law_orders
  have F_law_by_periods := fun_mk (st := st_law_by_periods) l_law_by_periods q_law_by_periods p_law_by_periods
  have F_law_refused := fun_mk (st := st_law_refused) l_law_refused q_law_refused p_law_refused
  have F_law_refusals_fit := fun_mk (st := st_law_refusals_fit) l_law_refusals_fit q_law_refusals_fit p_law_refusals_fit
  have F_law := fun_mk (st := st_law) l_law q_law p_law
  have F_IBadNumber := fun_mk (st := sti_BadNumber) l_IBadNumber q_IBadNumber p_IBadNumber
  have F_ITooMany := fun_mk (st := sti_TooMany) l_ITooMany q_ITooMany p_ITooMany
  let Z : Zs := ⟨f_is_whole, PySem.W.fnOf "_is_whole" "_is_whole" (defArgs st_is_whole) (defBody st_is_whole) (defScope st_is_whole) .none kV_is_whole dc_is_whole pm_is_whole an_is_whole cd_is_whole ct_is_whole, f_whole_in, PySem.W.fnOf "_whole_in" "_whole_in" (defArgs st_whole_in) (defBody st_whole_in) (defScope st_whole_in) .none kV_whole_in dc_whole_in pm_whole_in an_whole_in cd_whole_in ct_whole_in, f_check_jobs, PySem.W.fnOf "_check_jobs" "_check_jobs" (defArgs st_check_jobs) (defBody st_check_jobs) (defScope st_check_jobs) .none kV_check_jobs dc_check_jobs pm_check_jobs an_check_jobs cd_check_jobs ct_check_jobs, f_check_job_place, PySem.W.fnOf "_check_job_place" "_check_job_place" (defArgs st_check_job_place) (defBody st_check_job_place) (defScope st_check_job_place) .none kV_check_job_place dc_check_job_place pm_check_job_place an_check_job_place cd_check_job_place ct_check_job_place, f_rows_of_response, PySem.W.fnOf "rows_of_response" "rows_of_response" (defArgs st_rows_of_response) (defBody st_rows_of_response) (defScope st_rows_of_response) .none kV_rows_of_response dc_rows_of_response pm_rows_of_response an_rows_of_response cd_rows_of_response ct_rows_of_response, f_response, PySem.W.fnOf "response" "response" (defArgs st_response) (defBody st_response) (defScope st_response) .none kV_response dc_response pm_response an_response cd_response ct_response, f_never_misses, PySem.W.fnOf "never_misses" "never_misses" (defArgs st_never_misses) (defBody st_never_misses) (defScope st_never_misses) .none kV_never_misses dc_never_misses pm_never_misses an_never_misses cd_never_misses ct_never_misses, f_by_periods, PySem.W.fnOf "by_periods" "by_periods" (defArgs st_by_periods) (defBody st_by_periods) (defScope st_by_periods) .none kV_by_periods dc_by_periods pm_by_periods an_by_periods cd_by_periods ct_by_periods, f_load, PySem.W.fnOf "load" "load" (defArgs st_load) (defBody st_load) (defScope st_load) .none kV_load dc_load pm_load an_load cd_load ct_load, f_law_numbers, PySem.W.fnOf "_law_numbers" "_law_numbers" (defArgs st_law_numbers) (defBody st_law_numbers) (defScope st_law_numbers) .none kV_law_numbers dc_law_numbers pm_law_numbers an_law_numbers cd_law_numbers ct_law_numbers, f_law_draw, PySem.W.fnOf "_law_draw" "_law_draw" (defArgs st_law_draw) (defBody st_law_draw) (defScope st_law_draw) .none kV_law_draw dc_law_draw pm_law_draw an_law_draw cd_law_draw ct_law_draw, f_law_int, PySem.W.fnOf "_law_int" "_law_int" (defArgs st_law_int) (defBody st_law_int) (defScope st_law_int) .none kV_law_int dc_law_int pm_law_int an_law_int cd_law_int ct_law_int, f_law_any_jobs, PySem.W.fnOf "_law_any_jobs" "_law_any_jobs" (defArgs st_law_any_jobs) (defBody st_law_any_jobs) (defScope st_law_any_jobs) .none kV_law_any_jobs dc_law_any_jobs pm_law_any_jobs an_law_any_jobs cd_law_any_jobs ct_law_any_jobs, f_law_dividing, PySem.W.fnOf "_law_dividing" "_law_dividing" (defArgs st_law_dividing) (defBody st_law_dividing) (defScope st_law_dividing) .none kV_law_dividing dc_law_dividing pm_law_dividing an_law_dividing cd_law_dividing ct_law_dividing, f_law_lowest, PySem.W.fnOf "_law_lowest" "_law_lowest" (defArgs st_law_lowest) (defBody st_law_lowest) (defScope st_law_lowest) .none kV_law_lowest dc_law_lowest pm_law_lowest an_law_lowest cd_law_lowest ct_law_lowest, f_law_load, PySem.W.fnOf "_law_load" "_law_load" (defArgs st_law_load) (defBody st_law_load) (defScope st_law_load) .none kV_law_load dc_law_load pm_law_load an_law_load cd_law_load ct_law_load, f_law_well, PySem.W.fnOf "_law_well" "_law_well" (defArgs st_law_well) (defBody st_law_well) (defScope st_law_well) .none kV_law_well dc_law_well pm_law_well an_law_well cd_law_well ct_law_well, f_law_orders, PySem.W.fnOf "_law_orders" "_law_orders" (defArgs st_law_orders) (defBody st_law_orders) (defScope st_law_orders) .none kV_law_orders dc_law_orders pm_law_orders an_law_orders cd_law_orders ct_law_orders, f_law_by_periods, PySem.W.fnOf "_law_by_periods" "_law_by_periods" (defArgs st_law_by_periods) (defBody st_law_by_periods) (defScope st_law_by_periods) .none kV_law_by_periods dc_law_by_periods pm_law_by_periods an_law_by_periods cd_law_by_periods ct_law_by_periods, f_law_refused, PySem.W.fnOf "_law_refused" "_law_refused" (defArgs st_law_refused) (defBody st_law_refused) (defScope st_law_refused) .none kV_law_refused dc_law_refused pm_law_refused an_law_refused cd_law_refused ct_law_refused, f_law_refusals_fit, PySem.W.fnOf "_law_refusals_fit" "_law_refusals_fit" (defArgs st_law_refusals_fit) (defBody st_law_refusals_fit) (defScope st_law_refusals_fit) .none kV_law_refusals_fit dc_law_refusals_fit pm_law_refusals_fit an_law_refusals_fit cd_law_refusals_fit ct_law_refusals_fit, fa, PySem.W.fnOf "law" "law" (defArgs st_law) (defBody st_law) (defScope st_law) .none kV_law dc_law pm_law an_law cd_law ct_law, c_BadNumber, i_BadNumber, PySem.W.fnOf "__init__" "BadNumber.__init__" (defArgs sti_BadNumber) (defBody sti_BadNumber) (defScope sti_BadNumber) .none kV_IBadNumber dc_IBadNumber pm_IBadNumber an_IBadNumber cd_IBadNumber ct_IBadNumber, c_TooMany, i_TooMany, PySem.W.fnOf "__init__" "TooMany.__init__" (defArgs sti_TooMany) (defBody sti_TooMany) (defScope sti_TooMany) .none kV_ITooMany dc_ITooMany pm_ITooMany an_ITooMany cd_ITooMany ct_ITooMany, fun nm => if nm = "BadNumber" then c_BadNumber else if nm = "TooMany" then c_TooMany else 0⟩
  have T : Txt K mg Z := {
    z_all := PySem.W.mg_none_of X G z_all,
    z_bool := PySem.W.mg_none_of X G z_bool,
    z_enumerate := PySem.W.mg_none_of X G z_enumerate,
    z_int := PySem.W.mg_none_of X G z_int,
    z_isinstance := PySem.W.mg_none_of X G z_isinstance,
    z_len := PySem.W.mg_none_of X G z_len,
    z_list := PySem.W.mg_none_of X G z_list,
    z_max := PySem.W.mg_none_of X G z_max,
    z_min := PySem.W.mg_none_of X G z_min,
    z_range := PySem.W.mg_none_of X G z_range,
    z_sorted := PySem.W.mg_none_of X G z_sorted,
    z_str := PySem.W.mg_none_of X G z_str,
    z_sum := PySem.W.mg_none_of X G z_sum,
    z_tuple := PySem.W.mg_none_of X G z_tuple,
    k_LONGEST_JOB := ⟨_, PySem.W.mg_of X G k_LONGEST_JOB, ⟨_, rfl⟩⟩,
    k_MOST_JOBS := ⟨_, PySem.W.mg_of X G k_MOST_JOBS, ⟨_, rfl⟩⟩,
    k_MOST_RUNGS := ⟨_, PySem.W.mg_of X G k_MOST_RUNGS, ⟨_, rfl⟩⟩,
    i_gcd := PySem.W.mg_of X G m_gcd,
    d_is_whole := ⟨F_is_whole, PySem.W.mg_of X G a_is_whole, F_is_whole.binds (ps := ["value"]) fun _ _ _ _ _ _ us hl => match us, hl with | [_], _ => rfl⟩,
    d_whole_in := ⟨F_whole_in, PySem.W.mg_of X G a_whole_in, F_whole_in.binds (ps := ["value", "low", "high"]) fun _ _ _ _ _ _ us hl => match us, hl with | [_, _, _], _ => rfl⟩,
    d_check_jobs := ⟨F_check_jobs, PySem.W.mg_of X G a_check_jobs, F_check_jobs.binds (ps := ["jobs"]) fun _ _ _ _ _ _ us hl => match us, hl with | [_], _ => rfl⟩,
    d_check_job_place := ⟨F_check_job_place, PySem.W.mg_of X G a_check_job_place, F_check_job_place.binds (ps := ["jobs", "place"]) fun _ _ _ _ _ _ us hl => match us, hl with | [_, _], _ => rfl⟩,
    d_rows_of_response := ⟨F_rows_of_response, PySem.W.mg_of X G a_rows_of_response, F_rows_of_response.binds (ps := ["jobs", "place"]) fun _ _ _ _ _ _ us hl => match us, hl with | [_, _], _ => rfl⟩,
    d_response := ⟨F_response, PySem.W.mg_of X G a_response, F_response.binds (ps := ["jobs", "place"]) fun _ _ _ _ _ _ us hl => match us, hl with | [_, _], _ => rfl⟩,
    d_never_misses := ⟨F_never_misses, PySem.W.mg_of X G a_never_misses, F_never_misses.binds (ps := ["jobs"]) fun _ _ _ _ _ _ us hl => match us, hl with | [_], _ => rfl⟩,
    d_by_periods := ⟨F_by_periods, PySem.W.mg_of X G a_by_periods, F_by_periods.binds (ps := ["jobs"]) fun _ _ _ _ _ _ us hl => match us, hl with | [_], _ => rfl⟩,
    d_load := ⟨F_load, PySem.W.mg_of X G a_load, F_load.binds (ps := ["jobs"]) fun _ _ _ _ _ _ us hl => match us, hl with | [_], _ => rfl⟩,
    d_law_numbers := ⟨F_law_numbers, PySem.W.mg_of X G a_law_numbers, F_law_numbers.binds (ps := ["script"]) fun _ _ _ _ _ _ us hl => match us, hl with | [_], _ => rfl⟩,
    d_law_draw := ⟨F_law_draw, PySem.W.mg_of X G a_law_draw, F_law_draw.binds (ps := ["numbers", "many"]) fun _ _ _ _ _ _ us hl => match us, hl with | [_, _], _ => rfl⟩,
    d_law_int := ⟨F_law_int, PySem.W.mg_of X G a_law_int, F_law_int.binds (ps := ["value"]) fun _ _ _ _ _ _ us hl => match us, hl with | [_], _ => rfl⟩,
    d_law_any_jobs := ⟨F_law_any_jobs, PySem.W.mg_of X G a_law_any_jobs, F_law_any_jobs.binds (ps := ["numbers"]) fun _ _ _ _ _ _ us hl => match us, hl with | [_], _ => rfl⟩,
    d_law_dividing := ⟨F_law_dividing, PySem.W.mg_of X G a_law_dividing, F_law_dividing.binds (ps := ["numbers"]) fun _ _ _ _ _ _ us hl => match us, hl with | [_], _ => rfl⟩,
    d_law_lowest := ⟨F_law_lowest, PySem.W.mg_of X G a_law_lowest, F_law_lowest.binds (ps := ["n", "d"]) fun _ _ _ _ _ _ us hl => match us, hl with | [_, _], _ => rfl⟩,
    d_law_load := ⟨F_law_load, PySem.W.mg_of X G a_law_load, F_law_load.binds (ps := ["jobs"]) fun _ _ _ _ _ _ us hl => match us, hl with | [_], _ => rfl⟩,
    d_law_well := ⟨F_law_well, PySem.W.mg_of X G a_law_well, F_law_well.binds (ps := ["jobs"]) fun _ _ _ _ _ _ us hl => match us, hl with | [_], _ => rfl⟩,
    d_law_orders := ⟨F_law_orders, PySem.W.mg_of X G a_law_orders, F_law_orders.binds (ps := ["many"]) fun _ _ _ _ _ _ us hl => match us, hl with | [_], _ => rfl⟩,
    d_law_by_periods := ⟨F_law_by_periods, PySem.W.mg_of X G a_law_by_periods, F_law_by_periods.binds (ps := ["jobs"]) fun _ _ _ _ _ _ us hl => match us, hl with | [_], _ => rfl⟩,
    d_law_refused := ⟨F_law_refused, PySem.W.mg_of X G a_law_refused, F_law_refused.binds (ps := ["word", "jobs"]) fun _ _ _ _ _ _ us hl => match us, hl with | [_, _], _ => rfl⟩,
    d_law_refusals_fit := ⟨F_law_refusals_fit, PySem.W.mg_of X G a_law_refusals_fit, F_law_refusals_fit.binds (ps := ["numbers", "jobs"]) fun _ _ _ _ _ _ us hl => match us, hl with | [_, _], _ => rfl⟩,
    d_law := ⟨F_law, PySem.W.mg_of X G a_law, F_law.binds (ps := ["script"]) fun _ _ _ _ _ _ us hl => match us, hl with | [_], _ => rfl⟩,
    x_BadNumber := ⟨⟨⟨nm_BadNumber, qn_BadNumber, ns_BadNumber, bs_BadNumber, _, sn_BadNumber, sb_BadNumber, ab_BadNumber, col_BadNumber, dd_BadNumber, m0_BadNumber, m1_BadNumber, m2_BadNumber, m3_BadNumber, m5_BadNumber, xL_BadNumber, rfl⟩, sa_BadNumber, eC_BadNumber, tC_BadNumber, kC_BadNumber⟩, PySem.W.mg_of X G a_c_BadNumber, in_BadNumber, ti_BadNumber, F_IBadNumber, F_IBadNumber.binds (ps := ["self", "word"]) (fun _ _ _ _ _ _ us hl => match us, hl with | [_, _], _ => rfl), fun f hf => by simp only [List.mem_cons, List.not_mem_nil, or_false] at hf; subst hf; exact n_BadNumber_word, ⟨ga_BadNumber, gg_BadNumber, eC_BadNumber, hC_BadNumber⟩⟩,
    ec_BadNumber := (by show (if ("BadNumber" : Str) = "BadNumber" then c_BadNumber else if ("BadNumber" : Str) = "TooMany" then c_TooMany else 0) = c_BadNumber; rw [if_pos rfl]),
    x_TooMany := ⟨⟨⟨nm_TooMany, qn_TooMany, ns_TooMany, bs_TooMany, _, sn_TooMany, sb_TooMany, ab_TooMany, col_TooMany, dd_TooMany, m0_TooMany, m1_TooMany, m2_TooMany, m3_TooMany, m5_TooMany, xL_TooMany, rfl⟩, sa_TooMany, eC_TooMany, tC_TooMany, kC_TooMany⟩, PySem.W.mg_of X G a_c_TooMany, in_TooMany, ti_TooMany, F_ITooMany, F_ITooMany.binds (ps := ["self", "limit"]) (fun _ _ _ _ _ _ us hl => match us, hl with | [_, _], _ => rfl), fun f hf => by simp only [List.mem_cons, List.not_mem_nil, or_false] at hf; subst hf; exact n_TooMany_limit, ⟨ga_TooMany, gg_TooMany, eC_TooMany, hC_TooMany⟩⟩,
    ec_TooMany := (by show (if ("TooMany" : Str) = "BadNumber" then c_BadNumber else if ("TooMany" : Str) = "TooMany" then c_TooMany else 0) = c_TooMany; rw [if_neg (show ¬ (("TooMany" : Str) = "BadNumber") by decide), if_pos rfl]),
    sub_BadNumber := (fun nm r h => by
      unfold sub_BadNumber at h
      show PySem.W.exmOne K (.ref (if nm = "BadNumber" then c_BadNumber else if nm = "TooMany" then c_TooMany else 0)) (.ref c_BadNumber) = some r
      by_cases e_BadNumber : nm = "BadNumber"
      · rw [if_pos e_BadNumber] at h ⊢; cases h; exact exm_of eC_BadNumber iC_BadNumber tC_BadNumber s_BadNumber_BadNumber
      rw [if_neg e_BadNumber] at h ⊢
      by_cases e_TooMany : nm = "TooMany"
      · rw [if_pos e_TooMany] at h ⊢; cases h; exact exm_of eC_BadNumber iC_BadNumber tC_BadNumber s_TooMany_BadNumber
      rw [if_neg e_TooMany] at h ⊢
      cases h),
    sub_TooMany := (fun nm r h => by
      unfold sub_TooMany at h
      show PySem.W.exmOne K (.ref (if nm = "BadNumber" then c_BadNumber else if nm = "TooMany" then c_TooMany else 0)) (.ref c_TooMany) = some r
      by_cases e_BadNumber : nm = "BadNumber"
      · rw [if_pos e_BadNumber] at h ⊢; cases h; exact exm_of eC_TooMany iC_TooMany tC_TooMany s_BadNumber_TooMany
      rw [if_neg e_BadNumber] at h ⊢
      by_cases e_TooMany : nm = "TooMany"
      · rw [if_pos e_TooMany] at h ⊢; cases h; exact exm_of eC_TooMany iC_TooMany tC_TooMany s_TooMany_TooMany
      rw [if_neg e_TooMany] at h ⊢
      cases h) }
  exact ⟨PySem.W.fnOf "law" "law" (defArgs st_law) (defBody st_law) (defScope st_law) .none kV_law dc_law pm_law an_law cd_law ct_law, fun s v => .of_eq rfl, fun base _ _ => (ok_law (P := l.prog) (w := w) (base := base) T).imp fun vs H Q E q => law_sp hlaw q⟩
theorem walk (hlaw : ∀ ns : List Int, ns.length ≤ 63 → f_law ns = .nx true) {l : PySem.W.OpenLaw} {q : Program} {loose : List Str} {XP : (Str → Option Value) → Heap → Prop} {YP : World → Heap → Prop} {d : DefRec} {K : Params → PySem.W.Frag} (hn : l.most = some 63) (hdf : d.params.defaults = [])
    (hY : ∀ (w : World) (h : Heap), YP w h → (K w.params).In h)
    (F : ∀ (w : World) (mg : Str → Option Value) (fa : Addr) (h : Heap), (K w.params).In h → h.Ns mainGlobals mg → mg d.name = some (.ref fa) →
      ∃ fd : FuncData, (∀ (s : Shared) (u : Value), BindsTo s fd ⟨[u], []⟩ [("script", u)]) ∧ ∀ base : Heap, (K w.params).In base → base.Ns mainGlobals mg → FnOk l.prog w (K w.params) mg base (L2.CX l.prog w) 9 fa fd ["script"] (spLaw (K w.params) 63)) :
    PySem.W.WalkO q loose XP YP l.row.toRowW d [] (fun f vs => PySem.call f vs) :=
  L2.walk_of (n := 63) (k := 9) (x := "script") (CX := fun w => L2.CX l.prog w) (sp := fun w => spLaw (K w.params) 63) hn (by decide) hdf ⟨rfl, by decide, by decide⟩ hY F (fun _ _ a ns hl _ hS => ⟨a, ns, rfl, hS, hl, fun _ => rfl⟩) fun _ _ _ _ _ h => by
    obtain ⟨_, _, _, _, _, _, _, _, _, _, _, _, z⟩ := h
    exact z.elim
end Lw
open PySem PySem.W PyProof.Rows
set_option maxRecDepth 100000 in
set_option maxHeartbeats 0 in
theorem PySem.Challenge.cw_guardrungs_k78_load_and_dividing_periods_holds : PySem.Challenge.rw_guardrungs_k78_load_and_dividing_periods.Holds := by
  w_on; o_law; k_head; (case hw => w_witness2)
  k_fill
  refine Lw.walk Lw.law_true (l := PySem.Challenge.rw_guardrungs_k78_load_and_dividing_periods) rfl rfl (fun w h Y => PySem.W.kIn_of Y) ?F
  case F =>
    intro w mg fa h KX G hmg
    refine' Lw.all_mk Lw.law_true KX G hmg ?z_all ?z_bool ?z_enumerate ?z_int ?z_isinstance ?z_len ?z_list ?z_max ?z_min ?z_range ?z_sorted ?z_str ?z_sum ?z_tuple ?k_LONGEST_JOB ?k_MOST_JOBS ?k_MOST_RUNGS ?m_gcd ?a_is_whole ?l_is_whole ?q_is_whole ?p_is_whole ?a_whole_in ?l_whole_in ?q_whole_in ?p_whole_in ?a_check_jobs ?l_check_jobs ?q_check_jobs ?p_check_jobs ?a_check_job_place ?l_check_job_place ?q_check_job_place ?p_check_job_place ?a_rows_of_response ?l_rows_of_response ?q_rows_of_response ?p_rows_of_response ?a_response ?l_response ?q_response ?p_response ?a_never_misses ?l_never_misses ?q_never_misses ?p_never_misses ?a_by_periods ?l_by_periods ?q_by_periods ?p_by_periods ?a_load ?l_load ?q_load ?p_load ?a_law_numbers ?l_law_numbers ?q_law_numbers ?p_law_numbers ?a_law_draw ?l_law_draw ?q_law_draw ?p_law_draw ?a_law_int ?l_law_int ?q_law_int ?p_law_int ?a_law_any_jobs ?l_law_any_jobs ?q_law_any_jobs ?p_law_any_jobs ?a_law_dividing ?l_law_dividing ?q_law_dividing ?p_law_dividing ?a_law_lowest ?l_law_lowest ?q_law_lowest ?p_law_lowest ?a_law_load ?l_law_load ?q_law_load ?p_law_load ?a_law_well ?l_law_well ?q_law_well ?p_law_well ?a_law_orders ?l_law_orders ?q_law_orders ?p_law_orders ?a_law_by_periods ?l_law_by_periods ?q_law_by_periods ?p_law_by_periods ?a_law_refused ?l_law_refused ?q_law_refused ?p_law_refused ?a_law_refusals_fit ?l_law_refusals_fit ?q_law_refusals_fit ?p_law_refusals_fit ?a_law ?l_law ?q_law ?p_law ?a_c_BadNumber ?xL_BadNumber ?sa_BadNumber ?ga_BadNumber ?gg_BadNumber ?n_BadNumber_word ?in_BadNumber ?ti_BadNumber ?l_IBadNumber ?q_IBadNumber ?p_IBadNumber ?kC_BadNumber ?eC_BadNumber ?tC_BadNumber ?hC_BadNumber ?iC_BadNumber ?a_c_TooMany ?xL_TooMany ?sa_TooMany ?ga_TooMany ?gg_TooMany ?n_TooMany_limit ?in_TooMany ?ti_TooMany ?l_ITooMany ?q_ITooMany ?p_ITooMany ?kC_TooMany ?eC_TooMany ?tC_TooMany ?hC_TooMany ?iC_TooMany ?s_BadNumber_BadNumber ?s_TooMany_BadNumber ?s_BadNumber_TooMany ?s_TooMany_TooMany
    (case z_all => k_is)
    (case z_bool => k_is)
    (case z_enumerate => k_is)
    (case z_int => k_is)
    (case z_isinstance => k_is)
    (case z_len => k_is)
    (case z_list => k_is)
    (case z_max => k_is)
    (case z_min => k_is)
    (case z_range => k_is)
    (case z_sorted => k_is)
    (case z_str => k_is)
    (case z_sum => k_is)
    (case z_tuple => k_is)
    (case k_LONGEST_JOB => k_is)
    (case k_MOST_JOBS => k_is)
    (case k_MOST_RUNGS => k_is)
    (case m_gcd => k_is)
    (case a_is_whole => k_is)
    (case l_is_whole => k_is)
    (case q_is_whole => k_is)
    (case p_is_whole => k_is)
    (case a_whole_in => k_is)
    (case l_whole_in => k_is)
    (case q_whole_in => k_is)
    (case p_whole_in => k_is)
    (case a_check_jobs => k_is)
    (case l_check_jobs => k_is)
    (case q_check_jobs => k_is)
    (case p_check_jobs => k_is)
    (case a_check_job_place => k_is)
    (case l_check_job_place => k_is)
    (case q_check_job_place => k_is)
    (case p_check_job_place => k_is)
    (case a_rows_of_response => k_is)
    (case l_rows_of_response => k_is)
    (case q_rows_of_response => k_is)
    (case p_rows_of_response => k_is)
    (case a_response => k_is)
    (case l_response => k_is)
    (case q_response => k_is)
    (case p_response => k_is)
    (case a_never_misses => k_is)
    (case l_never_misses => k_is)
    (case q_never_misses => k_is)
    (case p_never_misses => k_is)
    (case a_by_periods => k_is)
    (case l_by_periods => k_is)
    (case q_by_periods => k_is)
    (case p_by_periods => k_is)
    (case a_load => k_is)
    (case l_load => k_is)
    (case q_load => k_is)
    (case p_load => k_is)
    (case a_law_numbers => k_is)
    (case l_law_numbers => k_is)
    (case q_law_numbers => k_is)
    (case p_law_numbers => k_is)
    (case a_law_draw => k_is)
    (case l_law_draw => k_is)
    (case q_law_draw => k_is)
    (case p_law_draw => k_is)
    (case a_law_int => k_is)
    (case l_law_int => k_is)
    (case q_law_int => k_is)
    (case p_law_int => k_is)
    (case a_law_any_jobs => k_is)
    (case l_law_any_jobs => k_is)
    (case q_law_any_jobs => k_is)
    (case p_law_any_jobs => k_is)
    (case a_law_dividing => k_is)
    (case l_law_dividing => k_is)
    (case q_law_dividing => k_is)
    (case p_law_dividing => k_is)
    (case a_law_lowest => k_is)
    (case l_law_lowest => k_is)
    (case q_law_lowest => k_is)
    (case p_law_lowest => k_is)
    (case a_law_load => k_is)
    (case l_law_load => k_is)
    (case q_law_load => k_is)
    (case p_law_load => k_is)
    (case a_law_well => k_is)
    (case l_law_well => k_is)
    (case q_law_well => k_is)
    (case p_law_well => k_is)
    (case a_law_orders => k_is)
    (case l_law_orders => k_is)
    (case q_law_orders => k_is)
    (case p_law_orders => k_is)
    (case a_law_by_periods => k_is)
    (case l_law_by_periods => k_is)
    (case q_law_by_periods => k_is)
    (case p_law_by_periods => k_is)
    (case a_law_refused => k_is)
    (case l_law_refused => k_is)
    (case q_law_refused => k_is)
    (case p_law_refused => k_is)
    (case a_law_refusals_fit => k_is)
    (case l_law_refusals_fit => k_is)
    (case q_law_refusals_fit => k_is)
    (case p_law_refusals_fit => k_is)
    (case a_law => k_is)
    (case l_law => k_is)
    (case q_law => k_is)
    (case p_law => k_is)
    (case a_c_BadNumber => k_is)
    (case xL_BadNumber => k_is)
    (case sa_BadNumber => k_is)
    (case ga_BadNumber => k_is)
    (case gg_BadNumber => k_is)
    (case n_BadNumber_word => k_is)
    (case in_BadNumber => k_is)
    (case ti_BadNumber => k_is)
    (case l_IBadNumber => k_is)
    (case q_IBadNumber => k_is)
    (case p_IBadNumber => k_is)
    (case kC_BadNumber => k_is)
    (case eC_BadNumber => k_is)
    (case tC_BadNumber => k_is)
    (case hC_BadNumber => k_is)
    (case iC_BadNumber => k_is)
    (case a_c_TooMany => k_is)
    (case xL_TooMany => k_is)
    (case sa_TooMany => k_is)
    (case ga_TooMany => k_is)
    (case gg_TooMany => k_is)
    (case n_TooMany_limit => k_is)
    (case in_TooMany => k_is)
    (case ti_TooMany => k_is)
    (case l_ITooMany => k_is)
    (case q_ITooMany => k_is)
    (case p_ITooMany => k_is)
    (case kC_TooMany => k_is)
    (case eC_TooMany => k_is)
    (case tC_TooMany => k_is)
    (case hC_TooMany => k_is)
    (case iC_TooMany => k_is)
    (case s_BadNumber_BadNumber => k_is)
    (case s_TooMany_BadNumber => k_is)
    (case s_BadNumber_TooMany => k_is)
    (case s_TooMany_TooMany => k_is)
#print axioms PySem.Challenge.cw_guardrungs_k78_load_and_dividing_periods_holds

