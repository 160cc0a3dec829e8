import PyProof.Rows.All
import Wide.All
import OpenK.AllK
import Wide.FinOn
import HandS.ForMost
import HandS.Exc
import HandS.IsInst
import HandS.TupAny
import HandS.Walk
import HandS.Sort
import HandS.WordsExc
import HandS.ExcOwn
import HandS.ExcInit
import HandS.ExcField
import HandS.TryMany
import HandS.Gcd
import HandS.TupMul
import HandS.SortRule
import HandS.AnyAll
import HandS.TryOnly
import KE.GoesEnum
import KE.KMathGC
import PyProof.WalkInts
import PyProof.TupleIter
import PySem.Challenge.RW_guardrungs_k77_whole_worst_over_all_offs
set_option Elab.async false
set_option linter.all false
set_option maxRecDepth 100000
set_option maxHeartbeats 1000000
/-! Gv: values told by what they mean, slots, own cells -/
namespace Gv
open PySem L2

/-! ### outcomes -/
structure Er where
  c : Str
  fs : List (Str × PyData)
inductive O (ρ lam α : Type) where
  | nx (a : α) | rt (r : ρ) | bk (l : lam) | ct (l : lam) | er (x : Er) | stuck
abbrev R (α : Type) := O Empty Empty α
def O.bind {ρ lam α β : Type} (m : O ρ lam α) (f : α → O ρ lam β) : O ρ lam β :=
  match m with
  | .nx a => f a | .rt r => .rt r | .bk l => .bk l | .ct l => .ct l | .er x => .er x | .stuck => .stuck
/-- a computation of a value, then what follows -/
def bindR {ρ lam α β : Type} (m : R α) (f : α → O ρ lam β) : O ρ lam β :=
  match m with
  | .nx a => f a | .rt r => r.elim | .bk l => l.elim | .ct l => l.elim | .er x => .er x | .stuck => .stuck
def lt {β γ : Type} (e : β) (f : β → γ) : γ := f e
/-- a def's body is at its end -/
def fin {ρ α : Type} (m : O ρ Empty α) (d : α → R ρ) : R ρ :=
  match m with
  | .nx a => d a | .rt r => .nx r | .bk l => l.elim | .ct l => l.elim | .er x => .er x | .stuck => .stuck
/-- a for over items -/
def forO {ρ lam σ β : Type} (f : σ → β → O ρ σ σ) : List β → σ → O ρ lam σ
  | [], s => .nx s
  | x :: xs, s => match f s x with
    | .nx s' => forO f xs s' | .ct s' => forO f xs s' | .bk s' => .nx s' | .rt r => .rt r | .er x => .er x | .stuck => .stuck
/-- a while, at most so many turns -/
def whileO {ρ lam σ : Type} (c : σ → R (σ × Bool)) (f : σ → O ρ σ σ) : Nat → σ → O ρ lam σ
  | 0, _ => .stuck
  | n + 1, s => bindR (c s) fun sb => if sb.2 then (match f sb.1 with
    | .nx s' => whileO c f n s' | .ct s' => whileO c f n s' | .bk s' => .nx s' | .rt r => .rt r | .er x => .er x | .stuck => .stuck) else .nx sb.1
/-- a comprehension; nothing may be raised in it -/
def lcR {σ β γ : Type} (f : σ → β → R (σ × Option γ)) : List β → σ → List γ → R (σ × List γ)
  | [], s, acc => .nx (s, acc)
  | x :: xs, s, acc => match f s x with
    | .nx (s', none) => lcR f xs s' acc
    | .nx (s', some y) => if acc.length < 1000000 then lcR f xs s' (acc ++ [y]) else .stuck
    | _ => .stuck

def Out {ρ lam α : Type} (m : O ρ lam α) (N : α → Prop) (T : ρ → Prop) (B C : lam → Prop) (E : Er → Prop) : Prop :=
  match m with
  | .nx a => N a | .rt r => T r | .bk l => B l | .ct l => C l | .er x => E x | .stuck => False
def OutR {α : Type} (m : R α) (N : α → Prop) (E : Er → Prop) : Prop :=
  match m with
  | .nx a => N a | .rt r => r.elim | .bk l => l.elim | .ct l => l.elim | .er x => E x | .stuck => False
section
variable {ρ lam α β : Type} {N : α → Prop} {N' : β → Prop} {T : ρ → Prop} {B C : lam → Prop} {E : Er → Prop}
theorem Out.bindR {m : R α} {f : α → O ρ lam β} (h : Out (Gv.bindR m f) N' T B C E) : OutR m (fun a => Out (f a) N' T B C E) E := by
  cases m <;> first | exact h | (rename_i z; exact z.elim)
theorem Out.bind {m : O ρ lam α} {f : α → O ρ lam β} (h : Out (m.bind f) N' T B C E) : Out m (fun a => Out (f a) N' T B C E) T B C E := by
  cases m <;> exact h
theorem Out.lt {e : α} {f : α → O ρ lam β} (h : Out (Gv.lt e f) N' T B C E) : Out (f e) N' T B C E := h
theorem OutR.out {m : R α} {T : Empty → Prop} {B C : Empty → Prop} (h : OutR m N E) : Out m N T B C E := by
  cases m <;> first | exact h | (rename_i z; exact z.elim)
theorem Out.outR {m : R α} {T : Empty → Prop} {B C : Empty → Prop} (h : Out m N T B C E) : OutR m N E := by
  cases m <;> first | exact h | (rename_i z; exact z.elim)
theorem OutR.imp {m : R α} {N1 : α → Prop} {E1 : Er → Prop} (h : OutR m N E) (hn : ∀ a, N a → N1 a) (he : ∀ x, E x → E1 x) : OutR m N1 E1 := by
  cases m <;> first | exact hn _ h | exact he _ h | exact h | (rename_i z; exact z.elim)
theorem Out.imp {m : O ρ lam α} {N1 : α → Prop} {T1 : ρ → Prop} {B1 C1 : lam → Prop} {E1 : Er → Prop} (h : Out m N T B C E) (hn : ∀ a, N a → N1 a) (ht : ∀ a, T a → T1 a) (hb : ∀ a, B a → B1 a) (hc : ∀ a, C a → C1 a) (he : ∀ x, E x → E1 x) : Out m N1 T1 B1 C1 E1 := by
  cases m <;> first | exact hn _ h | exact ht _ h | exact hb _ h | exact hc _ h | exact he _ h | exact h
end

/-! ### what a value means -/
abbrev VP := PySem.W.Frag → V → Hp → Prop
def Hd (K : PySem.W.Frag) (p : VP) (v : V) (S : Hp) : Prop := ∃ S0, Same S0 S ∧ p K v S0
theorem Hd.mono {K : PySem.W.Frag} {p : VP} {v : V} {S S' : Hp} (h : Hd K p v S) (e : Same S S') : Hd K p v S' := by
  obtain ⟨S0, a, b⟩ := h
  exact ⟨S0, a.trans e, b⟩
theorem Hd.of {K : PySem.W.Frag} {p : VP} {v : V} {S : Hp} (h : p K v S) : Hd K p v S := ⟨S, Same.refl S, h⟩

abbrev Hds (K : PySem.W.Frag) (S : Hp) : List VP → List V → Prop := Paired fun p v => Hd K p v S
theorem Hds.mono {K : PySem.W.Frag} {ps : List VP} {vs : List V} {S S' : Hp} (h : Hds K S ps vs) (e : Same S S') : Hds K S' ps vs := Paired.mapP h fun _ _ q => q.mono e

inductive Cell where
  | lst (ps : List VP)
  | dk (kvs : List (Key × VP))
def CellOk (K : PySem.W.Frag) (S : Hp) : Cell → HO → Prop
  | .lst ps, o => ∃ vs, o = .lst vs ∧ Hds K S ps vs
  | .dk kvs, o => ∃ vs, o = .dK vs ∧ Paired (fun (p : Key × VP) (v : Key × V) => p.1 = v.1 ∧ Hd K p.2 v.2 S) kvs vs
theorem CellOk.mono {K : PySem.W.Frag} {S S' : Hp} (e : Same S S') : ∀ {c : Cell} {o : HO}, CellOk K S c o → CellOk K S' c o
  | .lst _, _, ⟨vs, h, q⟩ => ⟨vs, h, q.mono e⟩
  | .dk _, _, ⟨vs, h, q⟩ => ⟨vs, h, Paired.mapP q fun _ _ z => ⟨z.1, z.2.mono e⟩⟩

inductive Tm where
  | dat (p : VP)
  | own (oa : Option Addr) (c : Cell)
  | als (i : Nat)
  | bad

structure Gh where
  S0 : Hp
  F : Hp

structure Base (g : Gh) (S H : Hp) : Prop where
  s0 : Same g.S0 S
  sh : Same S H
  fh : Same g.F H
  fs : ∀ b, g.F b ≠ none → g.S0 b = none → S b = none

def OwnAt (K : PySem.W.Frag) (g : Gh) (S H : Hp) (v : V) (oa : Option Addr) (c : Cell) : Prop :=
  ∃ a o, v = .ref a ∧ (∀ b, oa = some b → b = a) ∧ S a = none ∧ g.F a = none ∧ H a = some o ∧ CellOk K S c o
def One (K : PySem.W.Frag) (g : Gh) (S H : Hp) (σ : St) (x : V × Tm) : Prop :=
  match x.2 with
  | .dat p => Hd K p x.1 S
  | .own oa c => OwnAt K g S H x.1 oa c
  | .als i => σ[i]? = some (some x.1)
  | .bad => False
def addrs : List (V × Tm) → List Addr
  | [] => []
  | (.ref a, .own _ _) :: r => a :: addrs r
  | _ :: r => addrs r
def pack : St → List (Option Tm) → List (V × Tm)
  | _, [] => []
  | σ, none :: Γ => pack σ.tail Γ
  | some v :: σ, some t :: Γ => (v, t) :: pack σ Γ
  | none :: σ, some _ :: Γ => (.non, .bad) :: pack σ Γ
  | [], some _ :: Γ => (.non, .bad) :: pack [] Γ

structure AtS (K : PySem.W.Frag) (g : Gh) (S : Hp) (Γ : List (Option Tm)) (σ : St) (τ : List (V × Tm)) (H : Hp) : Prop where
  base : Base g S H
  len : Γ.length ≤ σ.length
  all : ∀ x ∈ pack σ Γ ++ τ, One K g S H σ x
  ns : ∀ x ∈ pack σ Γ, ∀ j, x.2 ≠ .als j
  al : ∀ x ∈ τ, ∀ k, x.2 = .als k → ∃ oa c, Γ[k]? = some (some (.own oa c))
  nd : (addrs (pack σ Γ ++ τ)).Nodup
def At (K : PySem.W.Frag) (g : Gh) (Γ : List (Option Tm)) (σ : St) (τ : List (V × Tm)) (H : Hp) : Prop := ∃ S, AtS K g S Γ σ τ H

/-! ### lists of entries -/
theorem addrs_append : ∀ l m : List (V × Tm), addrs (l ++ m) = addrs l ++ addrs m
  | [], m => rfl
  | (v, t) :: l, m => by
    have ih := addrs_append l m
    cases v <;> cases t <;> simp [addrs, ih]
theorem addrs_perm {l m : List (V × Tm)} (h : l.Perm m) : (addrs l).Perm (addrs m) := by
  induction h with
  | nil => exact .nil
  | cons x _ ih =>
    obtain ⟨v, t⟩ := x
    cases v <;> cases t <;> simp only [addrs] <;> first | exact ih | exact ih.cons _
  | swap x y l =>
    obtain ⟨v, t⟩ := x
    obtain ⟨u, s⟩ := y
    cases v <;> cases t <;> cases u <;> cases s <;> simp only [addrs] <;> first | exact .refl _ | exact .swap _ _ _
  | trans _ _ a b => exact a.trans b
theorem addrs_sub {l m : List (V × Tm)} (h : l.Sublist m) : (addrs l).Sublist (addrs m) := by
  induction h with
  | slnil => exact .slnil
  | cons x _ ih =>
    obtain ⟨v, t⟩ := x
    cases v <;> cases t <;> simp only [addrs] <;> first | exact ih | exact ih.cons _
  | cons_cons x _ ih =>
    obtain ⟨v, t⟩ := x
    cases v <;> cases t <;> simp only [addrs] <;> first | exact ih | exact ih.cons_cons _
theorem addrs_mem {l : List (V × Tm)} {a : Addr} (h : a ∈ addrs l) : ∃ oa c, (V.ref a, Tm.own oa c) ∈ l := by
  induction l with
  | nil => simp [addrs] at h
  | cons x r ih =>
    obtain ⟨v, t⟩ := x
    have go : a ∈ addrs r → ∃ oa c, (V.ref a, Tm.own oa c) ∈ (v, t) :: r := fun h => by
      obtain ⟨oa, c, q⟩ := ih h
      exact ⟨oa, c, List.mem_cons_of_mem _ q⟩
    cases v with
    | ref b =>
      cases t with
      | own oa c =>
        simp only [addrs, List.mem_cons] at h
        rcases h with rfl | h
        · exact ⟨oa, c, List.mem_cons_self⟩
        · exact go h
      | _ => exact go h
    | _ => cases t <;> exact go h
theorem mem_addrs {l : List (V × Tm)} {a : Addr} {oa : Option Addr} {c : Cell} (h : (V.ref a, Tm.own oa c) ∈ l) : a ∈ addrs l := by
  induction l with
  | nil => simp at h
  | cons x r ih =>
    rcases List.mem_cons.mp h with e | h
    · subst e; simp [addrs]
    · have := ih h
      obtain ⟨v, t⟩ := x
      cases v <;> cases t <;> simp [addrs, this]

/-! ### slots -/
theorem pack_get : ∀ {Γ : List (Option Tm)} {σ : St} {i : Nat} {t : Tm}, Γ[i]? = some (some t) → Γ.length ≤ σ.length →
    (∃ v, σ[i]? = some (some v) ∧ (pack σ Γ).Perm ((v, t) :: pack σ (Γ.set i none))) ∨ (V.non, Tm.bad) ∈ pack σ Γ
  | [], _, _, _, h, _ => by simp at h
  | x :: Γ, [], _, _, _, l => by simp at l
  | x :: Γ, y :: σ, 0, t, h, l => by
    simp only [List.getElem?_cons_zero, Option.some.injEq] at h
    subst h
    cases y with
    | none => exact .inr (by simp [pack])
    | some v => exact .inl ⟨v, by simp, by simp [pack]⟩
  | x :: Γ, y :: σ, i + 1, t, h, l => by
    have h' : Γ[i]? = some (some t) := by simpa using h
    have l' : Γ.length ≤ σ.length := by simpa using l
    rcases pack_get h' l' with ⟨v, e, p⟩ | b
    · refine .inl ⟨v, by simpa using e, ?_⟩
      cases x with
      | none => simpa [pack] using p
      | some u =>
        cases y with
        | none => exact (List.Perm.cons _ p).trans (.swap _ _ _)
        | some z => exact (List.Perm.cons _ p).trans (.swap _ _ _)
    · refine .inr ?_
      cases x with
      | none => simpa [pack] using b
      | some u => cases y <;> simp [pack, b]
theorem pack_drop : ∀ (Γ : List (Option Tm)) (σ : St) (i : Nat), (pack σ (Γ.set i none)).Sublist (pack σ Γ)
  | [], σ, i => by simp [pack]
  | x :: Γ, [], 0 => by
    cases x with
    | none => simp [pack]
    | some u => simp [pack]
  | x :: Γ, y :: σ, 0 => by
    cases x with
    | none => simp [pack]
    | some u => cases y <;> simp [pack]
  | x :: Γ, [], i + 1 => by
    have := pack_drop Γ [] i
    cases x with
    | none => simpa [pack] using this
    | some u => simpa [pack] using this
  | x :: Γ, y :: σ, i + 1 => by
    have := pack_drop Γ σ i
    cases x with
    | none => simpa [pack] using this
    | some u => cases y <;> simpa [pack] using this
theorem pack_set : ∀ {Γ : List (Option Tm)} {σ : St} {i : Nat} (v : V) (t : Tm), i < Γ.length → Γ.length ≤ σ.length →
    (pack (σ.set i (some v)) (Γ.set i (some t))).Perm ((v, t) :: pack σ (Γ.set i none))
  | [], _, _, _, _, h, _ => by simp at h
  | x :: Γ, [], _, _, _, _, l => by simp at l
  | x :: Γ, y :: σ, 0, v, t, _, _ => by simp [pack]
  | x :: Γ, y :: σ, i + 1, v, t, h, l => by
    have ih := pack_set (Γ := Γ) (σ := σ) (i := i) v t (by simpa using h) (by simpa using l)
    cases x with
    | none => simpa [pack] using ih
    | some u =>
      cases y with
      | none => exact (List.Perm.cons _ ih).trans (.swap _ _ _)
      | some z => exact (List.Perm.cons _ ih).trans (.swap _ _ _)
theorem pack_none : ∀ (Γ : List (Option Tm)) (σ : St) (i : Nat) (x : Option V), pack (σ.set i x) (Γ.set i none) = pack σ (Γ.set i none)
  | [], σ, i, x => by simp [pack]
  | y :: Γ, [], i, x => by simp
  | y :: Γ, z :: σ, 0, x => by simp [pack]
  | y :: Γ, z :: σ, i + 1, x => by
    have ih := pack_none Γ σ i x
    cases y with
    | none => simpa [pack] using ih
    | some u => cases z <;> simpa [pack] using ih

/-- less is told -/
inductive Le : List (Option Tm) → List (Option Tm) → Prop
  | nil {G : List (Option Tm)} : Le [] G
  | s {x : Option Tm} {G G' : List (Option Tm)} : Le G G' → Le (x :: G) (x :: G')
  | d {x : Option Tm} {G G' : List (Option Tm)} : Le G G' → Le (none :: G) (x :: G')

/-! ### the laws of At -/
section
variable {K : PySem.W.Frag} {g : Gh} {S H : Hp} {Γ : List (Option Tm)} {σ : St} {τ : List (V × Tm)} {v : V} {t : Tm} {p : VP} {ps : List VP} {i : Nat}
theorem One.keep {H' S' : Hp} (e : Same S S') (k : ∀ a, (∃ oa c, t = .own oa c) → v = .ref a → S' a = S a ∧ H' a = H a) (h : One K g S H σ (v, t)) : One K g S' H' σ (v, t) := by
  cases t with
  | dat p => exact Hd.mono h e
  | own oa c =>
    obtain ⟨a, o, rfl, h1, h2, h3, h4, h5⟩ := h
    obtain ⟨k1, k2⟩ := k a ⟨_, _, rfl⟩ rfl
    exact ⟨a, o, rfl, h1, k1.trans h2, h3, k2.trans h4, h5.mono e⟩
  | als i => exact h
  | bad => exact h

theorem AtS.perm {τ' : List (V × Tm)} (h : AtS K g S Γ σ τ H) (p : τ.Perm τ') : AtS K g S Γ σ τ' H :=
  ⟨h.base, h.len, fun x hx => h.all x ((p.append_left _).mem_iff.mpr hx), h.ns, fun x hx => h.al x (p.mem_iff.mpr hx), (addrs_perm (p.append_left _)).nodup_iff.mp h.nd⟩
theorem AtS.pop {x : V × Tm} (h : AtS K g S Γ σ (x :: τ) H) : AtS K g S Γ σ τ H := by
  have sub : (pack σ Γ ++ τ).Sublist (pack σ Γ ++ x :: τ) := List.Sublist.append_left (List.sublist_cons_self _ _) _
  exact ⟨h.base, h.len, fun y hy => h.all y (sub.subset hy), h.ns, fun y hy => h.al y (List.mem_cons_of_mem _ hy), h.nd.sublist (addrs_sub sub)⟩
theorem At.pop {x : V × Tm} (h : At K g Γ σ (x :: τ) H) : At K g Γ σ τ H := by
  obtain ⟨S, h⟩ := h
  exact ⟨S, h.pop⟩
theorem At.pop2 {x y : V × Tm} (h : At K g Γ σ (x :: y :: τ) H) : At K g Γ σ τ H := h.pop.pop
theorem AtS.top (h : AtS K g S Γ σ ((v, t) :: τ) H) : One K g S H σ (v, t) := h.all _ (by simp)
theorem AtS.push (h : AtS K g S Γ σ τ H) (q : Hd K p v S) : AtS K g S Γ σ ((v, .dat p) :: τ) H := by
  refine ⟨h.base, h.len, fun x hx => ?_, h.ns, fun x hx k e => ?_, ?_⟩
  · rcases List.mem_append.mp hx with hx | hx
    · exact h.all x (List.mem_append_left _ hx)
    · rcases List.mem_cons.mp hx with rfl | hx
      · exact q
      · exact h.all x (List.mem_append_right _ hx)
  · rcases List.mem_cons.mp hx with rfl | hx
    · cases e
    · exact h.al x hx k e
  · have e : addrs (pack σ Γ ++ (v, Tm.dat p) :: τ) = addrs (pack σ Γ ++ τ) := by
      rw [addrs_append, addrs_append]
      cases v <;> simp [addrs]
    rw [e]
    exact h.nd
theorem AtS.pushAls {oa : Option Addr} {c : Cell} (h : AtS K g S Γ σ τ H) (q : σ[i]? = some (some v)) (hg : Γ[i]? = some (some (.own oa c))) : AtS K g S Γ σ ((v, .als i) :: τ) H := by
  refine ⟨h.base, h.len, fun x hx => ?_, h.ns, fun x hx k e => ?_, ?_⟩
  · rcases List.mem_append.mp hx with hx | hx
    · exact h.all x (List.mem_append_left _ hx)
    · rcases List.mem_cons.mp hx with rfl | hx
      · exact q
      · exact h.all x (List.mem_append_right _ hx)
  · rcases List.mem_cons.mp hx with rfl | hx
    · cases e
      exact ⟨oa, c, hg⟩
    · exact h.al x hx k e
  · have e : addrs (pack σ Γ ++ (v, Tm.als i) :: τ) = addrs (pack σ Γ ++ τ) := by
      rw [addrs_append, addrs_append]
      cases v <;> simp [addrs]
    rw [e]
    exact h.nd
theorem AtS.slot (h : AtS K g S Γ σ τ H) (e : Γ[i]? = some (some t)) : ∃ v, σ[i]? = some (some v) ∧ One K g S H σ (v, t) ∧ (pack σ Γ).Perm ((v, t) :: pack σ (Γ.set i none)) := by
  rcases pack_get e h.len with ⟨v, h1, h2⟩ | b
  · exact ⟨v, h1, h.all _ (List.mem_append_left _ (h2.mem_iff.mpr List.mem_cons_self)), h2⟩
  · exact (h.all _ (List.mem_append_left _ b)).elim
/-- an object is laid and belongs to what stands still -/
theorem AtS.lay {a : Addr} {o : HO} (h : AtS K g S Γ σ τ H) (n : H a = none) : AtS K g (upd S a o) Γ σ τ (upd H a o) := by
  have nS : S a = none := by
    cases e : S a with
    | none => rfl
    | some u => rw [h.base.sh a u e] at n; cases n
  have nF : g.F a = none := by
    cases e : g.F a with
    | none => rfl
    | some u => rw [h.base.fh a u e] at n; cases n
  have e1 : Same S (upd S a o) := fun b u e => by rw [upd_ne (ne_of_none e nS)]; exact e
  refine ⟨⟨h.base.s0.trans e1, fun b u e => ?_, fun b u e => ?_, fun b hb h0 => ?_⟩, h.len, fun x hx => ?_, h.ns, h.al, h.nd⟩
  · by_cases hb : b = a
    · subst hb; rw [upd_same] at e ⊢; exact e
    · rw [upd_ne hb] at e ⊢; exact h.base.sh b u e
  · rw [upd_ne (ne_of_none e nF)]; exact h.base.fh b u e
  · have : b ≠ a := fun z => hb (z ▸ nF)
    rw [upd_ne this]; exact h.base.fs b hb h0
  · obtain ⟨v, t⟩ := x
    have q := h.all _ hx
    refine q.keep e1 fun b ht hv => ?_
    obtain ⟨oa, c, rfl⟩ := ht
    subst hv
    obtain ⟨a', o', ea, _, _, _, h4, _⟩ := q
    cases ea
    have : b ≠ a := ne_of_none h4 n
    rw [upd_ne this, upd_ne this]
    exact ⟨rfl, rfl⟩
/-- a new own cell -/
theorem AtS.freshA {a : Addr} {o : HO} {c : Cell} {oa : Option Addr} (hoa : ∀ b, oa = some b → b = a) (h : AtS K g S Γ σ τ H) (n : H a = none) (k : CellOk K S c o) : AtS K g S Γ σ ((.ref a, .own oa c) :: τ) (upd H a o) := by
  have nS : S a = none := by
    cases e : S a with
    | none => rfl
    | some u => rw [h.base.sh a u e] at n; cases n
  have nF : g.F a = none := by
    cases e : g.F a with
    | none => rfl
    | some u => rw [h.base.fh a u e] at n; cases n
  have old : ∀ x ∈ pack σ Γ ++ τ, One K g S (upd H a o) σ x := fun x hx => by
    obtain ⟨v, t⟩ := x
    have q := h.all _ hx
    refine q.keep (Same.refl S) fun b ht hv => ⟨rfl, ?_⟩
    obtain ⟨oa', c', rfl⟩ := ht
    subst hv
    obtain ⟨a', o', ea, _, _, _, h4, _⟩ := q
    cases ea
    exact upd_ne (ne_of_none h4 n)
  refine ⟨⟨h.base.s0, fun b u e => ?_, fun b u e => ?_, h.base.fs⟩, h.len, fun x hx => ?_, h.ns, fun x hx k e => ?_, ?_⟩
  · rw [upd_ne (ne_of_none e nS)]; exact h.base.sh b u e
  · rw [upd_ne (ne_of_none e nF)]; exact h.base.fh b u e
  · rcases List.mem_append.mp hx with hx | hx
    · exact old x (List.mem_append_left _ hx)
    · rcases List.mem_cons.mp hx with rfl | hx
      · exact ⟨a, o, rfl, hoa, nS, nF, upd_same, k⟩
      · exact old x (List.mem_append_right _ hx)
  · rcases List.mem_cons.mp hx with rfl | hx
    · cases e
    · exact h.al x hx k e
  · have p : (pack σ Γ ++ (V.ref a, Tm.own oa c) :: τ).Perm ((V.ref a, Tm.own oa c) :: (pack σ Γ ++ τ)) := List.perm_middle
    refine (addrs_perm p).nodup_iff.mpr ?_
    show (a :: addrs (pack σ Γ ++ τ)).Nodup
    refine List.nodup_cons.mpr ⟨fun hm => ?_, h.nd⟩
    obtain ⟨oa', c', hx⟩ := addrs_mem hm
    obtain ⟨a', o', ea, _, _, _, h4, _⟩ := h.all _ hx
    cases ea
    rw [n] at h4; cases h4
theorem AtS.fresh {a : Addr} {o : HO} {c : Cell} (h : AtS K g S Γ σ τ H) (n : H a = none) (k : CellOk K S c o) : AtS K g S Γ σ ((.ref a, .own none c) :: τ) (upd H a o) :=
  h.freshA (fun b z => nomatch z) n k
/-- the own cell on top stands still from now on -/
theorem AtS.freeze {oa : Option Addr} {c : Cell} (h : AtS K g S Γ σ ((v, .own oa c) :: τ) H) :
    ∃ a o, v = .ref a ∧ H a = some o ∧ S a = none ∧ CellOk K S c o ∧ AtS K g (upd S a o) Γ σ τ H := by
  obtain ⟨a, o, rfl, h1, nS, nF, h4, h5⟩ := h.top
  refine ⟨a, o, rfl, h4, nS, h5, ?_⟩
  have e1 : Same S (upd S a o) := fun b u e => by rw [upd_ne (ne_of_none e nS)]; exact e
  have p : (pack σ Γ ++ (V.ref a, Tm.own oa c) :: τ).Perm ((V.ref a, Tm.own oa c) :: (pack σ Γ ++ τ)) := List.perm_middle
  have nd : (a :: addrs (pack σ Γ ++ τ)).Nodup := (addrs_perm p).nodup_iff.mp h.nd
  obtain ⟨n1, n2⟩ := List.nodup_cons.mp nd
  refine ⟨⟨h.base.s0.trans e1, fun b u e => ?_, h.base.fh, fun b hb h0 => ?_⟩, h.len, fun x hx => ?_, h.ns, fun x hx => h.al x (List.mem_cons_of_mem _ hx), n2⟩
  · by_cases hb : b = a
    · subst hb; rw [upd_same] at e; rw [← e]; exact h4
    · rw [upd_ne hb] at e; exact h.base.sh b u e
  · have : b ≠ a := fun z => hb (z ▸ nF)
    rw [upd_ne this]; exact h.base.fs b hb h0
  · obtain ⟨v, t⟩ := x
    have q := h.all _ (p.mem_iff.mpr (List.mem_cons_of_mem _ hx))
    refine q.keep e1 fun b ht hv => ⟨?_, rfl⟩
    obtain ⟨oa', c', rfl⟩ := ht
    subst hv
    exact upd_ne fun z => n1 (by rw [← z]; exact mem_addrs hx)
/-- the cell of slot i is changed -/
theorem AtS.write {oa : Option Addr} {c c' : Cell} {o' : HO} (h : AtS K g S Γ σ τ H) (e : Γ[i]? = some (some (.own oa c))) (k : CellOk K S c' o') :
    ∃ a o, σ[i]? = some (some (.ref a)) ∧ H a = some o ∧ CellOk K S c o ∧ AtS K g S (Γ.set i (some (.own oa c'))) σ τ (upd H a o') := by
  obtain ⟨v, e1, q, p⟩ := h.slot e
  obtain ⟨a, o, rfl, h1, nS, nF, h4, h5⟩ := q
  refine ⟨a, o, e1, h4, h5, ?_⟩
  have hi : i < Γ.length := (List.getElem?_eq_some_iff.mp e).1
  have p1 : (pack σ Γ ++ τ).Perm ((V.ref a, Tm.own oa c) :: (pack σ (Γ.set i none) ++ τ)) := List.Perm.append_right τ p
  have hs : σ.set i (some (.ref a)) = σ := by
    apply List.ext_getElem?
    intro j
    by_cases hj : i = j
    · subst hj
      rw [List.getElem?_set_self (List.getElem?_eq_some_iff.mp e1).1, e1]
    · rw [List.getElem?_set_ne hj]
  have p2 : (pack σ (Γ.set i (some (.own oa c'))) ++ τ).Perm ((V.ref a, Tm.own oa c') :: (pack σ (Γ.set i none) ++ τ)) := by
    have := List.Perm.append_right τ (pack_set (Γ := Γ) (σ := σ) (i := i) (V.ref a) (.own oa c') hi h.len)
    rw [hs] at this
    exact this
  have nd : (a :: addrs (pack σ (Γ.set i none) ++ τ)).Nodup := (addrs_perm p1).nodup_iff.mp h.nd
  obtain ⟨n1, n2⟩ := List.nodup_cons.mp nd
  refine ⟨⟨h.base.s0, fun b u z => ?_, fun b u z => ?_, h.base.fs⟩, by rw [List.length_set]; exact h.len, fun x hx => ?_, fun x hx j => ?_, fun x hx j ej => ?_, (addrs_perm p2).nodup_iff.mpr nd⟩
  · rw [upd_ne (ne_of_none z nS)]; exact h.base.sh b u z
  · rw [upd_ne (ne_of_none z nF)]; exact h.base.fh b u z
  · rcases List.mem_cons.mp (p2.mem_iff.mp hx) with rfl | hx
    · exact ⟨a, o', rfl, h1, nS, nF, upd_same, k⟩
    · obtain ⟨v, t⟩ := x
      have q := h.all _ (p1.mem_iff.mpr (List.mem_cons_of_mem _ hx))
      refine q.keep (Same.refl S) fun b ht hv => ⟨rfl, ?_⟩
      obtain ⟨oa', c'', rfl⟩ := ht
      subst hv
      exact upd_ne fun z => n1 (by rw [← z]; exact mem_addrs hx)
  · have q := pack_set (Γ := Γ) (σ := σ) (i := i) (V.ref a) (.own oa c') hi h.len
    rw [hs] at q
    rcases List.mem_cons.mp (q.mem_iff.mp hx) with rfl | hx
    · intro z; cases z
    · exact h.ns x ((pack_drop Γ σ i).subset hx) j
  · obtain ⟨oa2, c2, e2⟩ := h.al x hx j ej
    by_cases hj : i = j
    · subst hj
      exact ⟨oa, c', List.getElem?_set_self hi⟩
    · exact ⟨oa2, c2, by rw [List.getElem?_set_ne hj]; exact e2⟩
/-- slot i takes the value on top; nothing else on the stack stands for slot i -/
theorem AtS.set (h : AtS K g S Γ σ ((v, t) :: τ) H) (hi : i < Γ.length) (ht : ∀ j, t ≠ .als j) (hτ : ∀ x ∈ τ, ∀ k, x.2 = .als k → k ≠ i) : AtS K g S (Γ.set i (some t)) (σ.set i (some v)) τ H := by
  have p := pack_set (Γ := Γ) (σ := σ) (i := i) v t hi h.len
  have sub : ((v, t) :: (pack σ (Γ.set i none) ++ τ)).Sublist ((v, t) :: (pack σ Γ ++ τ)) := ((pack_drop Γ σ i).append_right τ).cons_cons _
  have p2 : (pack σ Γ ++ (v, t) :: τ).Perm ((v, t) :: (pack σ Γ ++ τ)) := List.perm_middle
  have p3 : (pack (σ.set i (some v)) (Γ.set i (some t)) ++ τ).Perm ((v, t) :: (pack σ (Γ.set i none) ++ τ)) := p.append_right τ
  refine ⟨h.base, by rw [List.length_set, List.length_set]; exact h.len, fun x hx => ?_, fun x hx j => ?_, fun x hx k e => ?_, ?_⟩
  · have hx2 := p3.mem_iff.mp hx
    have hx3 := p2.mem_iff.mpr (sub.subset hx2)
    have q := h.all x hx3
    obtain ⟨v', t'⟩ := x
    cases t' with
    | als j =>
      rcases List.mem_cons.mp hx2 with e | hm
      · cases e; exact absurd rfl (ht j)
      · rcases List.mem_append.mp hm with hm | hm
        · exact absurd rfl (h.ns _ ((pack_drop Γ σ i).subset hm) j)
        · have q' : σ[j]? = some (some v') := q
          show (σ.set i (some v))[j]? = some (some v')
          rw [List.getElem?_set_ne (Ne.symm (hτ _ hm j rfl))]; exact q'
    | dat _ => exact q
    | own _ _ => exact q
    | bad => exact q
  · rcases List.mem_cons.mp (p.mem_iff.mp hx) with rfl | hm
    · exact ht j
    · exact h.ns _ ((pack_drop Γ σ i).subset hm) j
  · obtain ⟨oa, c, q⟩ := h.al x (List.mem_cons_of_mem _ hx) k e
    exact ⟨oa, c, by rw [List.getElem?_set_ne (Ne.symm (hτ x hx k e))]; exact q⟩
  · exact (addrs_perm p3).nodup_iff.mpr (((addrs_perm p2).nodup_iff.mp h.nd).sublist (addrs_sub sub))
/-- a slot that nothing is told of may hold anything -/
theorem AtS.any (h : AtS K g S Γ σ τ H) (hn : Γ[i]? = some none ∨ Γ[i]? = none) (x : Option V) : AtS K g S Γ (σ.set i x) τ H := by
  have eΓ : Γ.set i none = Γ := by
    apply List.ext_getElem?
    intro j
    by_cases hj : i = j
    · subst hj
      rcases hn with hn | hn
      · rw [List.getElem?_set_self (List.getElem?_eq_some_iff.mp hn).1, hn]
      · rw [List.set_eq_of_length_le (List.getElem?_eq_none_iff.mp hn)]
    · rw [List.getElem?_set_ne hj]
  have e : pack (σ.set i x) Γ = pack σ Γ := by
    have := pack_none Γ σ i x
    rw [eΓ] at this
    exact this
  refine ⟨h.base, by rw [List.length_set]; exact h.len, fun y hy => ?_, by rw [e]; exact h.ns, h.al, by rw [e]; exact h.nd⟩
  rw [e] at hy
  have q := h.all y hy
  obtain ⟨v', t'⟩ := y
  cases t' with
  | als k =>
    show (σ.set i x)[k]? = some (some v')
    have q' : σ[k]? = some (some v') := q
    have hk : i ≠ k := fun z => by
      rcases List.mem_append.mp hy with hm | hm
      · exact h.ns _ hm k rfl
      · obtain ⟨oa, c, q2⟩ := h.al _ hm k rfl
        rw [← z] at q2
        rcases hn with hn | hn <;> rw [hn] at q2 <;> cases q2
    rw [List.getElem?_set_ne hk]; exact q'
  | dat _ => exact q
  | own _ _ => exact q
  | bad => exact q
theorem Le.refl : ∀ Γ : List (Option Tm), Le Γ Γ
  | [] => .nil
  | _ :: Γ => .s (Le.refl Γ)
theorem Le.len {Γ Γ' : List (Option Tm)} (h : Le Γ Γ') : Γ.length ≤ Γ'.length := by
  induction h <;> simp_all
theorem Le.sub {Γ Γ' : List (Option Tm)} (h : Le Γ Γ') : ∀ σ : St, (pack σ Γ).Sublist (pack σ Γ') := by
  induction h with
  | nil => intro σ; simp [pack]
  | @s x _ _ _ ih =>
    intro σ
    cases x with
    | none => simpa [pack] using ih σ.tail
    | some t =>
      cases σ with
      | nil => simpa [pack] using ih []
      | cons y σ => cases y <;> simpa [pack] using ih σ
  | @d x _ _ _ ih =>
    intro σ
    cases x with
    | none => simpa [pack] using ih σ.tail
    | some t =>
      cases σ with
      | nil => simpa [pack] using (ih []).cons _
      | cons y σ => cases y <;> simpa [pack] using (ih σ).cons _
theorem At.weak {Γ' : List (Option Tm)} (h : At K g Γ σ [] H) (l : Le Γ' Γ) : At K g Γ' σ [] H := by
  obtain ⟨S, h⟩ := h
  have sub : (pack σ Γ' ++ []).Sublist (pack σ Γ ++ []) := (l.sub σ).append_right []
  exact ⟨S, h.base, Nat.le_trans l.len h.len, fun x hx => h.all x (sub.subset hx), fun x hx => h.ns x ((l.sub σ).subset hx), fun x hx => (by cases hx), h.nd.sublist (addrs_sub sub)⟩
theorem At.weak1 {Γ' : List (Option Tm)} (h : At K g Γ σ [(v, t)] H) (l : Le Γ' Γ) (ht : ∀ j, t ≠ .als j) : At K g Γ' σ [(v, t)] H := by
  obtain ⟨S, h⟩ := h
  have sub : (pack σ Γ' ++ [(v, t)]).Sublist (pack σ Γ ++ [(v, t)]) := (l.sub σ).append_right _
  exact ⟨S, h.base, Nat.le_trans l.len h.len, fun x hx => h.all x (sub.subset hx), fun x hx => h.ns x ((l.sub σ).subset hx), fun x hx k e => by
    have : x = (v, t) := by simpa using hx
    subst this
    exact absurd e (ht k), h.nd.sublist (addrs_sub sub)⟩
theorem pack_congr : ∀ {Γ : List (Option Tm)} {σ σ' : St}, (∀ (i : Nat) (t : Tm), Γ[i]? = some (some t) → σ'[i]? = σ[i]?) → Γ.length ≤ σ.length → Γ.length ≤ σ'.length → pack σ' Γ = pack σ Γ
  | [], _, _, _, _, _ => by simp [pack]
  | x :: Γ, [], _, _, l, _ => by simp at l
  | x :: Γ, _ :: _, [], _, _, l => by simp at l
  | x :: Γ, y :: σ, y' :: σ', h, l, l' => by
    have ih := pack_congr (Γ := Γ) (σ := σ) (σ' := σ') (fun i t e => by have := h (i + 1) t (by simpa using e); simpa using this) (by simpa using l) (by simpa using l')
    cases x with
    | none => simpa [pack] using ih
    | some t =>
      have e : y' = y := by have := h 0 t (by simp); simpa using this
      subst e
      cases y' <;> simp [pack, ih]
/-- slots that nothing is told of may be others -/
theorem AtS.slots {σ' : St} (h : AtS K g S Γ σ τ H) (e : ∀ (i : Nat) (t : Tm), Γ[i]? = some (some t) → σ'[i]? = σ[i]?) (l : Γ.length ≤ σ'.length) : AtS K g S Γ σ' τ H := by
  have ep := pack_congr e h.len l
  refine ⟨h.base, l, fun x hx => ?_, by rw [ep]; exact h.ns, h.al, by rw [ep]; exact h.nd⟩
  rw [ep] at hx
  have q := h.all x hx
  obtain ⟨v', t'⟩ := x
  cases t' with
  | als k =>
    rcases List.mem_append.mp hx with hm | hm
    · exact absurd rfl (h.ns _ hm k)
    · obtain ⟨oa, c, q2⟩ := h.al _ hm k rfl
      show σ'[k]? = some (some v')
      rw [e k _ q2]
      exact q
  | dat _ => exact q
  | own _ _ => exact q
  | bad => exact q
/-- a datum's slot is forgotten -/
theorem AtS.drop1 (h : AtS K g S Γ σ τ H) (e : Γ[i]? = some (some (.dat p))) : AtS K g S (Γ.set i none) σ τ H := by
  have sub : (pack σ (Γ.set i none) ++ τ).Sublist (pack σ Γ ++ τ) := (pack_drop Γ σ i).append_right τ
  refine ⟨h.base, by rw [List.length_set]; exact h.len, fun x hx => h.all x (sub.subset hx), fun x hx => h.ns x ((pack_drop Γ σ i).subset hx), fun x hx k ek => ?_, h.nd.sublist (addrs_sub sub)⟩
  obtain ⟨oa, c, q⟩ := h.al x hx k ek
  have hk : i ≠ k := fun z => by rw [z, q] at e; cases e
  exact ⟨oa, c, by rw [List.getElem?_set_ne hk]; exact q⟩
/-- the own list on the stack, below one value, is changed -/
theorem AtS.writeT {oa : Option Addr} {c c' : Cell} {o' : HO} {a : Addr} (h : AtS K g S Γ σ ((.ref a, .own oa c) :: τ) H) (k : CellOk K S c' o') :
    ∃ o, H a = some o ∧ CellOk K S c o ∧ AtS K g S Γ σ ((.ref a, .own oa c') :: τ) (upd H a o') := by
  obtain ⟨a', o, ea, h1, nS, nF, h4, h5⟩ := h.top
  cases ea
  refine ⟨o, h4, h5, ?_⟩
  have p : ∀ c : Cell, (pack σ Γ ++ (V.ref a, Tm.own oa c) :: τ).Perm ((V.ref a, Tm.own oa c) :: (pack σ Γ ++ τ)) := fun c => List.perm_middle
  have nd : (a :: addrs (pack σ Γ ++ τ)).Nodup := (addrs_perm (p c)).nodup_iff.mp h.nd
  obtain ⟨n1, n2⟩ := List.nodup_cons.mp nd
  refine ⟨⟨h.base.s0, fun b u z => ?_, fun b u z => ?_, h.base.fs⟩, h.len, fun x hx => ?_, h.ns, fun x hx j e => ?_, (addrs_perm (p c')).nodup_iff.mpr nd⟩
  · rw [upd_ne (ne_of_none z nS)]; exact h.base.sh b u z
  · rw [upd_ne (ne_of_none z nF)]; exact h.base.fh b u z
  · rcases List.mem_cons.mp ((p c').mem_iff.mp hx) with rfl | hx
    · exact ⟨a, o', rfl, h1, nS, nF, upd_same, k⟩
    · obtain ⟨v, t⟩ := x
      have q := h.all _ ((p c).mem_iff.mpr (List.mem_cons_of_mem _ hx))
      refine q.keep (Same.refl S) fun b ht hv => ⟨rfl, ?_⟩
      obtain ⟨oa', c'', rfl⟩ := ht
      subst hv
      exact upd_ne fun z => n1 (by rw [← z]; exact mem_addrs hx)
  · rcases List.mem_cons.mp hx with rfl | hx
    · cases e
    · exact h.al x (List.mem_cons_of_mem _ hx) j e
/-- from a later ghost back to an earlier one -/
theorem AtS.reS (h : AtS K g S Γ σ τ H) : AtS K ⟨S, g.F⟩ S Γ σ τ H :=
  ⟨⟨Same.refl S, h.base.sh, h.base.fh, fun b _ h0 => h0⟩, h.len, h.all, h.ns, h.al, h.nd⟩
theorem AtS.unS {S1 : Hp} (h : AtS K ⟨S1, g.F⟩ S Γ σ τ H) (e : Same g.S0 S1) (f : ∀ b, g.F b ≠ none → g.S0 b = none → S1 b = none) : AtS K g S Γ σ τ H :=
  ⟨⟨e.trans h.base.s0, h.base.sh, h.base.fh, fun b hb h0 => h.base.fs b hb (f b hb h0)⟩, h.len, h.all, h.ns, h.al, h.nd⟩
end
end Gv

set_option Elab.async false
set_option linter.all false
set_option maxRecDepth 100000
set_option maxHeartbeats 1000000
/-! Gv: expressions -/
namespace Gv
open PySem L2

/-! ### kinds of values -/
def eI (i : Int) : VP := fun _ v _ => v = .int i
def eB (b : Bool) : VP := fun _ v _ => v = .bl b
def eS (s : Str) : VP := fun _ v _ => v = .str s
def eN : VP := fun _ v _ => v = .non
def eU (_ : Unit) : VP := eN
def eO {α : Type} (e : α → VP) : Option α → VP
  | none => eN
  | some a => e a
def eV (x : V) : VP := fun _ v _ => v = x
def rT (ps : List VP) : VP := fun K v H => ∃ a vs, v = .ref a ∧ SqT K H a vs ∧ Hds K H ps vs
def rL (ps : List VP) : VP := fun K v H => ∃ a vs, v = .ref a ∧ SqL K H a vs ∧ Hds K H ps vs
def eT {α : Type} (e : α → VP) (xs : List α) : VP := rT (xs.map e)
def eL {α : Type} (e : α → VP) (xs : List α) : VP := rL (xs.map e)
def eP1 {α : Type} (e : α → VP) (x : α) : VP := rT [e x]
def eP2 {α β : Type} (e : α → VP) (f : β → VP) (x : α × β) : VP := rT [e x.1, f x.2]
def eP3 {α β γ : Type} (e : α → VP) (f : β → VP) (h : γ → VP) (x : α × β × γ) : VP := rT [e x.1, f x.2.1, h x.2.2]
def eP4 {α β γ δ : Type} (e : α → VP) (f : β → VP) (h : γ → VP) (k : δ → VP) (x : α × β × γ × δ) : VP := rT [e x.1, f x.2.1, h x.2.2.1, k x.2.2.2]
def eD (d : PyData) : VP := fun K v H => Dp K H v d
/-- a list of one's own, of typed items -/
def oL {α : Type} (e : α → VP) (xs : List α) : Tm := .own none (.lst (xs.map e))

theorem Hd.i {K : PySem.W.Frag} {i : Int} {v : V} {S : Hp} (h : Hd K (eI i) v S) : v = .int i := by obtain ⟨_, _, h⟩ := h; exact h
theorem Hd.b {K : PySem.W.Frag} {b : Bool} {v : V} {S : Hp} (h : Hd K (eB b) v S) : v = .bl b := by obtain ⟨_, _, h⟩ := h; exact h
theorem Hd.s {K : PySem.W.Frag} {s : Str} {v : V} {S : Hp} (h : Hd K (eS s) v S) : v = .str s := by obtain ⟨_, _, h⟩ := h; exact h
theorem Hd.n {K : PySem.W.Frag} {v : V} {S : Hp} (h : Hd K eN v S) : v = .non := by obtain ⟨_, _, h⟩ := h; exact h
theorem Hd.v {K : PySem.W.Frag} {x v : V} {S : Hp} (h : Hd K (eV x) v S) : v = x := by obtain ⟨_, _, h⟩ := h; exact h
theorem same_t {K : PySem.W.Frag} {H H' : Hp} {a : Addr} {xs : List V} (e : Same H H') (h : SqT K H a xs) : SqT K H' a xs := by
  rcases h with (h | ⟨o, h⟩) | h
  · exact .inl (.inl (e _ _ h))
  · exact .inl (.inr ⟨o, e _ _ h⟩)
  · exact .inr h
theorem Hd.t {K : PySem.W.Frag} {ps : List VP} {v : V} {S : Hp} (h : Hd K (rT ps) v S) : ∃ a vs, v = .ref a ∧ SqT K S a vs ∧ Hds K S ps vs := by
  obtain ⟨S0, e, a, vs, h1, h2, h3⟩ := h
  exact ⟨a, vs, h1, same_t e h2, h3.mono e⟩
theorem Hd.l {K : PySem.W.Frag} {ps : List VP} {v : V} {S : Hp} (h : Hd K (rL ps) v S) : ∃ a vs, v = .ref a ∧ SqL K S a vs ∧ Hds K S ps vs := by
  obtain ⟨S0, e, a, vs, h1, h2, h3⟩ := h
  exact ⟨a, vs, h1, e.seq h2, h3.mono e⟩
theorem Hds.get {K : PySem.W.Frag} {S : Hp} : ∀ {ps : List VP} {vs : List V} {i : Nat} {p : VP}, Hds K S ps vs → ps[i]? = some p → ∃ v, vs[i]? = some v ∧ Hd K p v S
  | _, _, _, _, .nil, h => by simp at h
  | _, _, 0, p, .cons r _, h => by
    simp only [List.getElem?_cons_zero, Option.some.injEq] at h
    subst h
    exact ⟨_, by simp, r⟩
  | _, _, i + 1, p, .cons _ t, h => by
    obtain ⟨v, h1, h2⟩ := Hds.get (i := i) (p := p) t (by simpa using h)
    exact ⟨v, by simpa using h1, h2⟩
theorem Hds.len {K : PySem.W.Frag} {S : Hp} {ps : List VP} {vs : List V} (h : Hds K S ps vs) : vs.length = ps.length := (Paired.length h).symm
theorem Hds.append {K : PySem.W.Frag} {S : Hp} : ∀ {ps qs : List VP} {vs ws : List V}, Hds K S ps vs → Hds K S qs ws → Hds K S (ps ++ qs) (vs ++ ws)
  | _, _, _, _, .nil, q => q
  | _, _, _, _, .cons r t, q => .cons r (Hds.append t q)
theorem Hds.take {K : PySem.W.Frag} {S : Hp} : ∀ {ps : List VP} {vs : List V} (n : Nat), Hds K S ps vs → Hds K S (ps.take n) (vs.take n)
  | _, _, 0, _ => by simpa using Paired.nil
  | _, _, _ + 1, .nil => .nil
  | _, _, n + 1, .cons r t => .cons r (Hds.take n t)
theorem Hds.drop {K : PySem.W.Frag} {S : Hp} : ∀ {ps : List VP} {vs : List V} (n : Nat), Hds K S ps vs → Hds K S (ps.drop n) (vs.drop n)
  | _, _, 0, h => by simpa using h
  | _, _, _ + 1, .nil => .nil
  | _, _, n + 1, .cons _ t => Hds.drop n t
theorem Hds.set {K : PySem.W.Frag} {S : Hp} {p : VP} {v : V} (h : Hd K p v S) : ∀ {ps : List VP} {vs : List V} (n : Nat), Hds K S ps vs → Hds K S (ps.set n p) (vs.set n v)
  | _, _, _, .nil => .nil
  | _, _, 0, .cons _ t => .cons h t
  | _, _, n + 1, .cons r t => .cons r (Hds.set h n t)
theorem Hds.rev {K : PySem.W.Frag} {S : Hp} {ps : List VP} {vs : List V} (h : Hds K S ps vs) : Hds K S ps.reverse vs.reverse := by
  induction h with
  | nil => exact .nil
  | cons r t ih => rw [List.reverse_cons, List.reverse_cons]; exact Hds.append ih (.cons r .nil)
theorem Hds.dropLast {K : PySem.W.Frag} {S : Hp} {ps : List VP} {vs : List V} (h : Hds K S ps vs) : Hds K S ps.dropLast vs.dropLast := by
  rw [List.dropLast_eq_take, List.dropLast_eq_take, h.len]
  exact h.take _

/-! ### judgements -/
section
variable (K : PySem.W.Frag) (Γ : List (Option Tm))
def EV (te : TE) (t : Tm) : Prop := ∀ g σ τ H (Q : VK), At K g Γ σ τ H → (∀ v H', At K g Γ σ ((v, t) :: τ) H' → Q v H') → te σ H Q
def EVB (tt : TT) (b : Bool) : Prop := ∀ g σ τ H (Q : Bool → Hp → Prop), At K g Γ σ τ H → (∀ H', At K g Γ σ τ H' → Q b H') → tt σ H Q
/-- arguments: the values stand on the stack, the last one on top -/
def EA (ta : TA) (ts : List Tm) : Prop := ∀ g σ τ H (Q : List V → Hp → Prop), At K g Γ σ τ H → (∀ vs H', vs.length = ts.length → At K g Γ σ ((vs.zip ts).reverse ++ τ) H' → Q vs H') → ta σ H Q
def O1 (r : V → Hp → VK → Prop) (t z : Tm) : Prop := ∀ g σ τ H x (Q : VK), At K g Γ σ ((x, t) :: τ) H → (∀ v H', At K g Γ σ ((v, z) :: τ) H' → Q v H') → r x H Q
def O2 (r : R2) (t u z : Tm) : Prop := ∀ g σ τ H x y (Q : VK), At K g Γ σ ((y, u) :: (x, t) :: τ) H → (∀ v H', At K g Γ σ ((v, z) :: τ) H' → Q v H') → r x y H Q
def O1M {γ : Type} (r : V → Hp → VK → Prop) (t : Tm) (m : R γ) (z : γ → Tm) : Prop := ∀ g σ τ H x (Q : VK) (E : Er → Prop), At K g Γ σ ((x, t) :: τ) H → OutR m (fun c => ∀ v H', At K g Γ σ ((v, z c) :: τ) H' → Q v H') E → r x H Q
def O2M {γ : Type} (r : R2) (t u : Tm) (m : R γ) (z : γ → Tm) : Prop := ∀ g σ τ H x y (Q : VK) (E : Er → Prop), At K g Γ σ ((y, u) :: (x, t) :: τ) H → OutR m (fun c => ∀ v H', At K g Γ σ ((v, z c) :: τ) H' → Q v H') E → r x y H Q
end

/-- a partial step -/
def gd (c : Bool) {α : Type} (a : α) : R α := if c then .nx a else .stuck
theorem OutR.gd {α : Type} {c : Bool} {a : α} {N : α → Prop} {E : Er → Prop} (h : OutR (Gv.gd c a) N E) : c = true ∧ N a := by
  unfold Gv.gd at h
  cases c with
  | true => exact ⟨rfl, h⟩
  | false => exact h.elim

section
variable {K : PySem.W.Frag} {Γ : List (Option Tm)} {g : Gh} {S H : Hp} {σ : St} {τ : List (V × Tm)} {v x y : V} {t u z w : Tm} {p q : VP} {ps qs : List VP} {i : Nat} {ta tb tc te : TE} {r r' : R2}

theorem At.scal (h : At K g Γ σ τ H) (q : ∀ S, p K v S) : At K g Γ σ ((v, .dat p) :: τ) H := by
  obtain ⟨S, h⟩ := h
  exact ⟨S, h.push (.of (q S))⟩
theorem ev_var (h : Γ[i]? = some (some (.dat p)) := by rfl) : EV K Γ (tVar i) (.dat p) := fun g σ τ H Q ⟨S, hA⟩ k => by
  obtain ⟨v, e, o, _⟩ := hA.slot h
  exact ⟨v, e, k v H ⟨S, hA.push o⟩⟩
theorem ev_own {oa : Option Addr} {c : Cell} (h : Γ[i]? = some (some (.own oa c)) := by rfl) : EV K Γ (tVar i) (.als i) := fun g σ τ H Q ⟨S, hA⟩ k => by
  obtain ⟨v, e, o, _⟩ := hA.slot h
  exact ⟨v, e, k v H ⟨S, hA.pushAls e h⟩⟩
theorem ev_int {j : Int} : EV K Γ (tC (.int j)) (.dat (eI j)) := fun g σ τ H Q hA k => k _ H (hA.scal fun _ => rfl)
theorem ev_bl {b : Bool} : EV K Γ (tC (.bl b)) (.dat (eB b)) := fun g σ τ H Q hA k => k _ H (hA.scal fun _ => rfl)
theorem ev_str {s : Str} : EV K Γ (tC (.str s)) (.dat (eS s)) := fun g σ τ H Q hA k => k _ H (hA.scal fun _ => rfl)
theorem ev_non : EV K Γ (tC .non) (.dat eN) := fun g σ τ H Q hA k => k _ H (hA.scal fun _ => rfl)
theorem ev_cv {x : V} : EV K Γ (tC x) (.dat (eV x)) := fun g σ τ H Q hA k => k _ H (hA.scal fun _ => rfl)
theorem ev_op (ha : EV K Γ ta t) (hb : EV K Γ tb u) (ho : O2 K Γ r t u z) : EV K Γ (tOp r ta tb) z := fun g σ τ H Q hA k =>
  ha g σ τ H _ hA fun _ H1 h1 => hb g σ _ H1 _ h1 fun _ H2 h2 => ho g σ τ H2 _ _ Q h2 k
theorem ev_un {r : V → Hp → VK → Prop} (ha : EV K Γ ta t) (ho : O1 K Γ r t z) : EV K Γ (tUn r ta) z := fun g σ τ H Q hA k =>
  ha g σ τ H _ hA fun _ H1 h1 => ho g σ τ H1 _ Q h1 k
theorem ev_cb1 {r : List V → Hp → VK → Prop} (ha : EV K Γ ta t) (ho : O1 K Γ (fun x => r [x]) t z) : EV K Γ (tCB r (tCons ta tNil)) z := fun g σ τ H Q hA k =>
  ha g σ τ H _ hA fun _ H1 h1 => ho g σ τ H1 _ Q h1 k
theorem ev_cb2 {r : List V → Hp → VK → Prop} (ha : EV K Γ ta t) (hb : EV K Γ tb u) (ho : O2 K Γ (fun x y => r [x, y]) t u z) : EV K Γ (tCB r (tCons ta (tCons tb tNil))) z := fun g σ τ H Q hA k =>
  ha g σ τ H _ hA fun _ H1 h1 => hb g σ _ H1 _ h1 fun _ H2 h2 => ho g σ τ H2 _ _ Q h2 k
theorem ea_nil : EA K Γ tNil [] := fun g σ τ H Q hA k => k [] H rfl hA
theorem ea_cons {tr : TA} {ts : List Tm} (h : EV K Γ te t) (hr : EA K Γ tr ts) : EA K Γ (tCons te tr) (t :: ts) := fun g σ τ H Q hA k =>
  h g σ τ H _ hA fun v H1 h1 => hr g σ _ H1 _ h1 fun vs H2 hl h2 => k (v :: vs) H2 (by simp [hl]) (by
    rw [List.zip_cons_cons, List.reverse_cons, List.append_assoc]
    exact h2)
/-- the datas on the stack -/
theorem AtS.datas : ∀ {ps : List VP} {vs : List V} {τ : List (V × Tm)}, AtS K g S Γ σ ((vs.zip (ps.map Tm.dat)).reverse ++ τ) H → vs.length = ps.length → Hds K S ps vs ∧ AtS K g S Γ σ τ H
  | [], [], τ, h, _ => ⟨.nil, by simpa using h⟩
  | [], _ :: _, _, _, e => by simp at e
  | _ :: _, [], _, _, e => by simp at e
  | p :: ps, v :: vs, τ, h, e => by
    rw [List.map_cons, List.zip_cons_cons, List.reverse_cons, List.append_assoc] at h
    obtain ⟨h1, h2⟩ := AtS.datas (ps := ps) (vs := vs) (τ := [(v, Tm.dat p)] ++ τ) h (by simpa using e)
    exact ⟨.cons h2.top h1, h2.pop⟩
theorem ev_tup {ta : TA} (ps : List VP) (h : EA K Γ ta (ps.map Tm.dat)) (hz : ps.length ≤ 100 := by exact Nat.le_of_ble_eq_true rfl) : EV K Γ (tTup ta) (.dat (rT ps)) := fun g σ τ H Q hA k =>
  h g σ τ H _ hA fun vs H1 hl ⟨S, h1⟩ => by
    have hl' : vs.length = ps.length := by simpa using hl
    obtain ⟨d, h2⟩ := h1.datas hl'
    refine ⟨Nat.le_trans (Nat.le_of_eq hl') (Nat.le_trans hz (by decide)), fun a ha => k _ _ ⟨_, (h2.lay ha).push (.of ⟨a, vs, rfl, SqT.of upd_same, d.mono fun b o e => ?_⟩)⟩⟩
    have : S a = none := by
      cases e : S a with
      | none => rfl
      | some o => rw [h2.base.sh a o e] at ha; cases ha
    rw [upd_ne (ne_of_none e this)]; exact e
theorem ev_lst {ta : TA} (ps : List VP) (h : EA K Γ ta (ps.map Tm.dat)) (hz : ps.length ≤ 100 := by exact Nat.le_of_ble_eq_true rfl) : EV K Γ (tLst ta) (.own none (.lst ps)) := fun g σ τ H Q hA k =>
  h g σ τ H _ hA fun vs H1 hl ⟨S, h1⟩ => by
    have hl' : vs.length = ps.length := by simpa using hl
    obtain ⟨d, h2⟩ := h1.datas hl'
    exact ⟨Nat.le_trans (Nat.le_of_eq hl') (Nat.le_trans hz (by decide)), fun a ha => k _ _ ⟨_, h2.fresh ha ⟨vs, rfl, d⟩⟩⟩
theorem At.frz {oa : Option Addr} (h : At K g Γ σ ((v, .own oa (.lst ps)) :: τ) H) : At K g Γ σ ((v, .dat (rL ps)) :: τ) H := by
  obtain ⟨S, h⟩ := h
  obtain ⟨a, o, rfl, h4, nS, ⟨vs, rfl, d⟩, h2⟩ := h.freeze
  refine ⟨_, h2.push (.of ⟨a, vs, rfl, SqL.of upd_same, d.mono fun b o e => ?_⟩)⟩
  rw [upd_ne (ne_of_none e nS)]; exact e
theorem ev_frz {oa : Option Addr} (h : EV K Γ te (.own oa (.lst ps))) : EV K Γ te (.dat (rL ps)) := fun g σ τ H Q hA k => h g σ τ H Q hA fun v H' h' => k v H' h'.frz

/-! ### ints, bools, texts -/
theorem At.scal1 {r : V → Hp → VK → Prop} (f : ∀ S v, Hd K p v S → ∀ H (Q : VK), Q x H → r v H Q) (hz : ∀ S, q K x S) : O1 K Γ r (.dat p) (.dat q) := fun g σ τ H v Q ⟨S, h⟩ k =>
  f S v h.top H Q (k _ H ⟨S, h.pop.push (.of (hz S))⟩)
theorem At.scal2 {p2 : VP} (f : ∀ S v w, Hd K p v S → Hd K p2 w S → ∀ H (Q : VK), Q x H → r v w H Q) (hz : ∀ S, q K x S) : O2 K Γ r (.dat p) (.dat p2) (.dat q) := fun g σ τ H v w Q ⟨S, h⟩ k =>
  f S v w h.pop.top h.top H Q (k _ H ⟨S, h.pop.pop.push (.of (hz S))⟩)
theorem o2_i0 {f : Int → Int → Int} {a b : Int} : O2 K Γ (rI0 fun i j => .int (f i j)) (.dat (eI a)) (.dat (eI b)) (.dat (eI (f a b))) :=
  At.scal2 (fun S v w h1 h2 H Q k => ⟨a, b, h1.i, h2.i, k⟩) fun _ => rfl
theorem o2_i {C : Int → Int → Prop} {f : Int → Int → Int} {a b : Int} (hc : C a b) : O2 K Γ (rI C fun i j => .int (f i j)) (.dat (eI a)) (.dat (eI b)) (.dat (eI (f a b))) :=
  At.scal2 (fun S v w h1 h2 H Q k => ⟨a, b, h1.i, h2.i, hc, k⟩) fun _ => rfl
theorem o2_c0 {f : Int → Int → Bool} {a b : Int} : O2 K Γ (rI0 fun i j => .bl (f i j)) (.dat (eI a)) (.dat (eI b)) (.dat (eB (f a b))) :=
  At.scal2 (fun S v w h1 h2 H Q k => ⟨a, b, h1.i, h2.i, k⟩) fun _ => rfl
theorem dec_inj {α : Type} [DecidableEq α] {f : α → V} (hf : ∀ a b, f a = f b → a = b) (a b : α) : decide (f a = f b) = decide (a = b) := by
  by_cases h : a = b
  · subst h; simp
  · rw [decide_eq_false h, decide_eq_false fun e => h (hf _ _ e)]
theorem o2_eqI {a b : Int} : O2 K Γ rEq (.dat (eI a)) (.dat (eI b)) (.dat (eB (decide (a = b)))) :=
  At.scal2 (fun S v w h1 h2 H Q k => by
    rw [h1.i, h2.i]
    exact ⟨rfl, by rw [dec_inj (f := V.int) (fun _ _ e => V.int.inj e)]; exact k⟩) fun _ => rfl
theorem o2_neI {a b : Int} : O2 K Γ rNe (.dat (eI a)) (.dat (eI b)) (.dat (eB (!decide (a = b)))) :=
  At.scal2 (fun S v w h1 h2 H Q k => by
    rw [h1.i, h2.i]
    exact ⟨rfl, by rw [dec_inj (f := V.int) (fun _ _ e => V.int.inj e)]; exact k⟩) fun _ => rfl
theorem o2_eqS {a b : Str} : O2 K Γ rEq (.dat (eS a)) (.dat (eS b)) (.dat (eB (decide (a = b)))) :=
  At.scal2 (fun S v w h1 h2 H Q k => by
    rw [h1.s, h2.s]
    exact ⟨rfl, by rw [dec_inj (f := V.str) (fun _ _ e => V.str.inj e)]; exact k⟩) fun _ => rfl
theorem o2_neS {a b : Str} : O2 K Γ rNe (.dat (eS a)) (.dat (eS b)) (.dat (eB (!decide (a = b)))) :=
  At.scal2 (fun S v w h1 h2 H Q k => by
    rw [h1.s, h2.s]
    exact ⟨rfl, by rw [dec_inj (f := V.str) (fun _ _ e => V.str.inj e)]; exact k⟩) fun _ => rfl
theorem o2_eqB {a b : Bool} : O2 K Γ rEq (.dat (eB a)) (.dat (eB b)) (.dat (eB (decide (a = b)))) :=
  At.scal2 (fun S v w h1 h2 H Q k => by
    rw [h1.b, h2.b]
    exact ⟨rfl, by rw [dec_inj (f := V.bl) (fun _ _ e => V.bl.inj e)]; exact k⟩) fun _ => rfl
theorem o2_neB {a b : Bool} : O2 K Γ rNe (.dat (eB a)) (.dat (eB b)) (.dat (eB (!decide (a = b)))) :=
  At.scal2 (fun S v w h1 h2 H Q k => by
    rw [h1.b, h2.b]
    exact ⟨rfl, by rw [dec_inj (f := V.bl) (fun _ _ e => V.bl.inj e)]; exact k⟩) fun _ => rfl
theorem o1_neg {a : Int} : O1 K Γ (rU fun i => .int (-i)) (.dat (eI a)) (.dat (eI (-a))) := At.scal1 (fun S v h H Q k => ⟨a, h.i, k⟩) fun _ => rfl
/-- partial: a % b, a // b, a * b -/
def modR (a b : Int) : R Int := gd (decide (0 < b)) (a % b)
def divR (a b : Int) : R Int := gd (decide (0 < b) && decide (b < 1073741824)) (a / b)
@[irreducible] def mulR (a b : Int) : R Int := gd ((decide (-(2 ^ 64) < a) && decide (a < 2 ^ 64)) || (decide (-(2 ^ 64) < b) && decide (b < 2 ^ 64))) (a * b)
theorem At.part2 {γ : Type} {c : Bool} {a : γ} {zz : γ → Tm} (h : c = true → O2 K Γ r t u (zz a)) : O2M K Γ r t u (gd c a) zz := fun g σ τ H x y Q E hA hm => by
  obtain ⟨hc, k⟩ := hm.gd
  exact h hc g σ τ H x y Q hA k
theorem At.part1 {γ : Type} {r : V → Hp → VK → Prop} {c : Bool} {a : γ} {zz : γ → Tm} (h : c = true → O1 K Γ r t (zz a)) : O1M K Γ r t (gd c a) zz := fun g σ τ H x Q E hA hm => by
  obtain ⟨hc, k⟩ := hm.gd
  exact h hc g σ τ H x Q hA k
theorem o2_mod {a b : Int} : O2M K Γ (rI (fun _ j => 0 < j) fun i j => .int (i % j)) (.dat (eI a)) (.dat (eI b)) (modR a b) (fun c => .dat (eI c)) := At.part2 fun h => o2_i (of_decide_eq_true h)
theorem o2_div {a b : Int} : O2M K Γ (rI CDiv fun i j => .int (i / j)) (.dat (eI a)) (.dat (eI b)) (divR a b) (fun c => .dat (eI c)) := At.part2 fun h => o2_i (by
  simp only [Bool.and_eq_true, decide_eq_true_eq] at h
  exact h)
theorem o2_mul {a b : Int} : O2M K Γ (rI CMul fun i j => .int (i * j)) (.dat (eI a)) (.dat (eI b)) (mulR a b) (fun c => .dat (eI c)) := by
  unfold mulR
  exact At.part2 fun h => o2_i (by
    simp only [Bool.or_eq_true, Bool.and_eq_true, decide_eq_true_eq] at h
    exact h)
/-- by a written number -/
theorem o2_modK {a b : Int} (h : decide (0 < b) = true := by rfl) : O2 K Γ (rI (fun _ j => 0 < j) fun i j => .int (i % j)) (.dat (eI a)) (.dat (eI b)) (.dat (eI (a % b))) := o2_i (of_decide_eq_true h)
theorem o2_divK {a b : Int} (h : (decide (0 < b) && decide (b < 1073741824)) = true := by rfl) : O2 K Γ (rI CDiv fun i j => .int (i / j)) (.dat (eI a)) (.dat (eI b)) (.dat (eI (a / b))) := o2_i (by
  simp only [Bool.and_eq_true, decide_eq_true_eq] at h
  exact h)
theorem o2_mulK {a b : Int} (h : (decide (-(2 ^ 64) < b) && decide (b < 2 ^ 64)) = true := by decide) : O2 K Γ (rI CMul fun i j => .int (i * j)) (.dat (eI a)) (.dat (eI b)) (.dat (eI (a * b))) := o2_i (by
  simp only [Bool.and_eq_true, decide_eq_true_eq] at h
  exact .inr h)
theorem o2_mulJ {a b : Int} (h : (decide (-(2 ^ 64) < a) && decide (a < 2 ^ 64)) = true := by decide) : O2 K Γ (rI CMul fun i j => .int (i * j)) (.dat (eI a)) (.dat (eI b)) (.dat (eI (a * b))) := o2_i (by
  simp only [Bool.and_eq_true, decide_eq_true_eq] at h
  exact .inl h)
theorem o2_powK {a b : Int} (h : CPow a b := by refine ⟨?_, ?_, ?_⟩ <;> decide) : O2 K Γ (rI CPow fun i j => .int (i ^ j.toNat)) (.dat (eI a)) (.dat (eI b)) (.dat (eI (a ^ b.toNat))) := o2_i h
/-- is None -/
def NN {α : Type} (e : α → VP) : Prop := ∀ K a v S, Hd K (e a) v S → v ≠ .non
theorem nn_i : NN eI := fun K a v S h => by rw [h.i]; intro z; cases z
theorem nn_b : NN eB := fun K a v S h => by rw [h.b]; intro z; cases z
theorem nn_s : NN eS := fun K a v S h => by rw [h.s]; intro z; cases z
theorem nn_t {α : Type} {f : α → List VP} : NN (fun a => rT (f a)) := fun K a v S h => by
  obtain ⟨a, vs, rfl, _⟩ := h.t
  intro z; cases z
theorem nn_l {α : Type} {f : α → List VP} : NN (fun a => rL (f a)) := fun K a v S h => by
  obtain ⟨a, vs, rfl, _⟩ := h.l
  intro z; cases z
theorem eO_dec {α : Type} {e : α → VP} (n : NN e) {o : Option α} {v : V} {S : Hp} (h : Hd K (eO e o) v S) : decide (v = .non) = o.isNone := by
  cases o with
  | none => have e1 : v = .non := Hd.n h; subst e1; rfl
  | some a => exact decide_eq_false (n K a v S h)
def rIsN : R2 := fun x y H Q => y = .non ∧ Q (.bl (decide (x = .non))) H
def rNotN : R2 := fun x y H Q => y = .non ∧ Q (.bl (!decide (x = .non))) H
theorem p_isN {X : Cx} : OpR X (compareOp .Is) rIsN := op_isN
theorem p_notN {X : Cx} : OpR X (compareOp .IsNot) rNotN := op_notN
theorem o2_isN {α : Type} {e : α → VP} {o : Option α} (n : NN e) : O2 K Γ rIsN (.dat (eO e o)) (.dat eN) (.dat (eB o.isNone)) :=
  At.scal2 (fun S v w h1 h2 H Q k => ⟨h2.n, by rw [eO_dec n h1]; exact k⟩) fun _ => rfl
theorem o2_notN {α : Type} {e : α → VP} {o : Option α} (n : NN e) : O2 K Γ rNotN (.dat (eO e o)) (.dat eN) (.dat (eB (!o.isNone))) :=
  At.scal2 (fun S v w h1 h2 H Q k => ⟨h2.n, by rw [eO_dec n h1]; exact k⟩) fun _ => rfl

/-! ### tests -/
variable {tA tB' : TT} {a b c : Bool}
theorem evb_test (h : EV K Γ te (.dat (eB b))) : EVB K Γ (tTest te) b := fun g σ τ H Q hA k => h g σ τ H _ hA fun v H' ⟨S, h'⟩ => ⟨b, h'.top.b, k H' ⟨S, h'.pop⟩⟩
theorem evb_B (h : EV K Γ te (.dat (eB b))) : EVB K Γ (tB te) b := fun g σ τ H Q hA k => h g σ τ H _ hA fun v H' ⟨S, h'⟩ => ⟨b, h'.top.b, k H' ⟨S, h'.pop⟩⟩
theorem evb_and (h1 : EVB K Γ tA a) (h2 : EVB K Γ tB' b) : EVB K Γ (tAnd tA tB') (a && b) := fun g σ τ H Q hA k => h1 g σ τ H _ hA fun H1 hA1 => by
  cases a with
  | true => exact h2 g σ τ H1 Q hA1 k
  | false => exact k H1 hA1
theorem evb_or (h1 : EVB K Γ tA a) (h2 : EVB K Γ tB' b) : EVB K Γ (tOr tA tB') (a || b) := fun g σ τ H Q hA k => h1 g σ τ H _ hA fun H1 hA1 => by
  cases a with
  | false => exact h2 g σ τ H1 Q hA1 k
  | true => exact k H1 hA1
theorem evb_not (h1 : EVB K Γ tA a) : EVB K Γ (tNot tA) (!a) := fun g σ τ H Q hA k => h1 g σ τ H _ hA fun H1 hA1 => k H1 hA1
theorem ev_andV (h1 : EV K Γ ta (.dat (eB a))) (h2 : EV K Γ tb (.dat (eB b))) : EV K Γ (tAndV ta tb) (.dat (eB (a && b))) := fun g σ τ H Q hA k => h1 g σ τ H _ hA fun v H1 ⟨S, h⟩ => ⟨a, h.top.b, by
  have hA1 : At K g Γ σ τ H1 := ⟨S, h.pop⟩
  cases a with
  | true => exact h2 g σ τ H1 Q hA1 k
  | false => exact k _ H1 (hA1.scal fun _ => rfl)⟩
theorem ev_orV (h1 : EV K Γ ta (.dat (eB a))) (h2 : EV K Γ tb (.dat (eB b))) : EV K Γ (tOrV ta tb) (.dat (eB (a || b))) := fun g σ τ H Q hA k => h1 g σ τ H _ hA fun v H1 ⟨S, h⟩ => ⟨a, h.top.b, by
  have hA1 : At K g Γ σ τ H1 := ⟨S, h.pop⟩
  cases a with
  | false => exact h2 g σ τ H1 Q hA1 k
  | true => exact k _ H1 (hA1.scal fun _ => rfl)⟩
theorem ev_notV (h1 : EV K Γ ta (.dat (eB a))) : EV K Γ (tNotV ta) (.dat (eB (!a))) := fun g σ τ H Q hA k => h1 g σ τ H _ hA fun v H1 ⟨S, h⟩ => ⟨a, h.top.b, k _ H1 (At.scal ⟨S, h.pop⟩ fun _ => rfl)⟩
theorem ev_if {α : Type} {e : α → Tm} {x y : α} (hc : EVB K Γ tA c) (h1 : EV K Γ ta (e x)) (h2 : EV K Γ tb (e y)) : EV K Γ (tIf tA ta tb) (e (if c then x else y)) := fun g σ τ H Q hA k => hc g σ τ H _ hA fun H1 hA1 => by
  cases c with
  | true => exact h1 g σ τ H1 Q hA1 k
  | false => exact h2 g σ τ H1 Q hA1 k
/-- a < b < c on ints (b asked once) -/
theorem ev_chain {i j k : Int} {f f' : Int → Int → Bool} (h1 : EV K Γ ta (.dat (eI i))) (h2 : EV K Γ tb (.dat (eI j))) (h3 : EV K Γ tc (.dat (eI k))) :
    EV K Γ (tChain (rI0 fun i j => .bl (f i j)) (rI0 fun i j => .bl (f' i j)) ta tb tc) (.dat (eB (f i j && f' j k))) := fun g σ τ H Q hA kk =>
  h1 g σ τ H _ hA fun x H1 hA1 => h2 g σ _ H1 _ hA1 fun y H2 ⟨S, hA2⟩ => by
    refine ⟨i, j, hA2.pop.top.i, hA2.top.i, f i j, rfl, ?_⟩
    cases e : f i j with
    | true =>
      show tc σ H2 _
      refine h3 g σ _ H2 _ ⟨S, hA2⟩ fun z H3 ⟨S3, hA3⟩ => ⟨j, k, hA3.pop.top.i, hA3.top.i, ?_⟩
      refine kk _ H3 ⟨S3, hA3.pop.pop.pop.push (.of ?_)⟩
      show V.bl _ = V.bl _
      rw [e, Bool.true_and]
    | false =>
      show Q (.bl false) H2
      exact kk _ H2 ⟨S, hA2.pop.pop.push (.of (by show V.bl _ = V.bl _; rw [e, Bool.false_and]))⟩
end
end Gv

set_option Elab.async false
set_option linter.all false
set_option maxRecDepth 100000
set_option maxHeartbeats 1000000
/-! Gv: lists, tuples, calls, statements -/
namespace Gv
open PySem L2

/-! ### what stands on the stack is a list, a tuple -/
inductive IsL (G : List (Option Tm)) : Tm → List VP → Prop
  | dat {ps : List VP} : IsL G (.dat (rL ps)) ps
  | als {i : Nat} {oa : Option Addr} {ps : List VP} (h : G[i]? = some (some (.own oa (.lst ps)))) : IsL G (.als i) ps
  | own {oa : Option Addr} {ps : List VP} : IsL G (.own oa (.lst ps)) ps
inductive IsQ (G : List (Option Tm)) : Tm → List VP → Prop
  | l {t : Tm} {ps : List VP} (h : IsL G t ps) : IsQ G t ps
  | t {ps : List VP} : IsQ G (.dat (rT ps)) ps

section
variable {K : PySem.W.Frag} {Γ : List (Option Tm)} {g : Gh} {S H : Hp} {σ : St} {τ : List (V × Tm)} {v x y : V} {t u z w : Tm} {p q : VP} {ps qs : List VP} {i : Nat} {ta tb tc te : TE} {r r' : R2} {α : Type} {e : α → VP}

theorem AtS.isL (h : AtS K g S Γ σ τ H) (hm : (v, t) ∈ τ) (hl : IsL Γ t ps) : ∃ a vs, v = .ref a ∧ SqL K H a vs ∧ Hds K S ps vs := by
  have q := h.all _ (List.mem_append_right _ hm)
  cases hl with
  | dat =>
    obtain ⟨a, vs, h1, h2, h3⟩ := Hd.l q
    exact ⟨a, vs, h1, h.base.sh.seq h2, h3⟩
  | als hg =>
    obtain ⟨w, e, o, _⟩ := h.slot hg
    have q' : σ[_]? = some (some v) := q
    rw [e] at q'
    cases q'
    obtain ⟨a, o, h1, _, _, _, h4, vs, rfl, d⟩ := o
    exact ⟨a, vs, h1, SqL.of h4, d⟩
  | own =>
    obtain ⟨a, o, h1, _, _, _, h4, vs, rfl, d⟩ := q
    exact ⟨a, vs, h1, SqL.of h4, d⟩
theorem AtS.isT (h : AtS K g S Γ σ τ H) (hm : (v, .dat (rT ps)) ∈ τ) : ∃ a vs, v = .ref a ∧ SqT K H a vs ∧ Hds K S ps vs := by
  obtain ⟨a, vs, h1, h2, h3⟩ := Hd.t (h.all _ (List.mem_append_right _ hm))
  exact ⟨a, vs, h1, same_t h.base.sh h2, h3⟩
theorem AtS.isQ (h : AtS K g S Γ σ τ H) (hm : (v, t) ∈ τ) (hl : IsQ Γ t ps) : ∃ a vs, v = .ref a ∧ (SqL K H a vs ∨ SqT K H a vs) ∧ Hds K S ps vs := by
  cases hl with
  | l hl =>
    obtain ⟨a, vs, h1, h2, h3⟩ := h.isL hm hl
    exact ⟨a, vs, h1, .inl h2, h3⟩
  | t =>
    obtain ⟨a, vs, h1, h2, h3⟩ := h.isT hm
    exact ⟨a, vs, h1, .inr h2, h3⟩

/-! ### len, list(..), tuple(..) -/
def rLen (K : PySem.W.Frag) : List V → Hp → VK → Prop := fun xs H Q => ∃ p ys, xs = [V.ref p] ∧ (SqL K H p ys ∨ SqT K H p ys) ∧ Q (.int ys.length) H
def rList (K : PySem.W.Frag) : List V → Hp → VK → Prop := fun xs H Q => ∃ p ys, xs = [V.ref p] ∧ (SqL K H p ys ∨ SqT K H p ys) ∧ ∀ l, H l = none → Q (.ref l) (upd H l (.lst ys))
def rTuple (K : PySem.W.Frag) : List V → Hp → VK → Prop := fun xs H Q => ∃ p ys, xs = [V.ref p] ∧ ((SqL K H p ys ∧ ∀ l, H l = none → Q (.ref l) (upd H l (.tup ys))) ∨ (SqT K H p ys ∧ Q (.ref p) H))
def rInt1 : List V → Hp → VK → Prop := fun xs H Q => (∃ i, xs = [V.int i] ∧ Q (.int i) H) ∨ ∃ k, xs = [V.bl k] ∧ Q (.int (if k then 1 else 0)) H
def rStr1 : List V → Hp → VK → Prop := fun xs H Q => ∃ i : Int, xs = [V.int i] ∧ i.natAbs.log2 < 1920 ∧ Q (.str (toString i)) H
def rMax2 : List V → Hp → VK → Prop := fun xs H Q => ∃ i j, xs = [V.int i, V.int j] ∧ Q (.int (if j > i then j else i)) H
def rMin2 : List V → Hp → VK → Prop := fun xs H Q => ∃ i j, xs = [V.int i, V.int j] ∧ Q (.int (if j < i then j else i)) H
def rAbs : List V → Hp → VK → Prop := fun xs H Q => ∃ i, xs = [V.int i] ∧ Q (.int (if i < 0 then -i else i)) H
section
variable {X : Cx}
theorem c_len : CallR X (.builtin "len") (rLen X.K) := call_len_seq
theorem c_list : CallR X (.type "list") (rList X.K) := call_list_of
theorem c_tuple : CallR X (.type "tuple") (rTuple X.K) := call_tuple_of
theorem c_int : CallR X (.type "int") rInt1 := call_int1
theorem c_str : CallR X (.type "str") rStr1 := call_str_int
theorem c_max2 (hc : X.calm = true := by rfl) : CallR X (.builtin "max") rMax2 := call_max2 hc
theorem c_min2 (hc : X.calm = true := by rfl) : CallR X (.builtin "min") rMin2 := call_min2 hc
theorem c_abs : CallR X (.builtin "abs") rAbs := call_abs
end
theorem o1_int {i : Int} : O1 K Γ (fun x => rInt1 [x]) (.dat (eI i)) (.dat (eI i)) := At.scal1 (fun S v h H Q k => .inl ⟨i, by rw [h.i], k⟩) fun _ => rfl
theorem o1_intB {b : Bool} : O1 K Γ (fun x => rInt1 [x]) (.dat (eB b)) (.dat (eI (if b then 1 else 0))) := At.scal1 (fun S v h H Q k => .inr ⟨b, by rw [h.b], k⟩) fun _ => rfl
theorem o1_abs {i : Int} : O1 K Γ (fun x => rAbs [x]) (.dat (eI i)) (.dat (eI (if i < 0 then -i else i))) := At.scal1 (fun S v h H Q k => ⟨i, by rw [h.i], k⟩) fun _ => rfl
def strI (i : Int) : Str := toString i
def strR (i : Int) : R Str := gd (decide (i.natAbs.log2 < 1920)) (strI i)
theorem o1_str {i : Int} : O1M K Γ (fun x => rStr1 [x]) (.dat (eI i)) (strR i) (fun s => .dat (eS s)) := At.part1 fun hc => At.scal1 (fun S v h H Q k => ⟨i, by rw [h.i], of_decide_eq_true hc, k⟩) fun _ => rfl
def maxI (i j : Int) : Int := if j > i then j else i
def minI (i j : Int) : Int := if j < i then j else i
theorem o2_max {i j : Int} : O2 K Γ (fun x y => rMax2 [x, y]) (.dat (eI i)) (.dat (eI j)) (.dat (eI (maxI i j))) := At.scal2 (fun S v w h1 h2 H Q k => ⟨i, j, by rw [h1.i, h2.i], k⟩) fun _ => rfl
theorem o2_min {i j : Int} : O2 K Γ (fun x y => rMin2 [x, y]) (.dat (eI i)) (.dat (eI j)) (.dat (eI (minI i j))) := At.scal2 (fun S v w h1 h2 H Q k => ⟨i, j, by rw [h1.i, h2.i], k⟩) fun _ => rfl
theorem o1_len (hl : IsQ Γ t ps) : O1 K Γ (fun x => rLen K [x]) t (.dat (eI (ps.length : Int))) := fun g σ τ H x Q ⟨S, h⟩ k => by
  obtain ⟨a, vs, rfl, h2, h3⟩ := h.isQ List.mem_cons_self hl
  refine ⟨a, vs, rfl, h2, k _ H ⟨S, h.pop.push (.of ?_)⟩⟩
  show V.int _ = V.int _
  rw [h3.len]
theorem o1_lenT (xs : List α) (e : α → VP) (hl : IsQ Γ t (xs.map e)) : O1 K Γ (fun x => rLen K [x]) t (.dat (eI (xs.length : Int))) := by
  have := o1_len (K := K) hl
  rw [List.length_map] at this
  exact this
theorem o1_list (hl : IsQ Γ t ps) : O1 K Γ (fun x => rList K [x]) t (.own none (.lst ps)) := fun g σ τ H x Q ⟨S, h⟩ k => by
  obtain ⟨a, vs, rfl, h2, h3⟩ := h.isQ List.mem_cons_self hl
  exact ⟨a, vs, rfl, h2, fun l hn => k _ _ ⟨S, h.pop.fresh hn ⟨vs, rfl, h3⟩⟩⟩
theorem nS_of (h : AtS K g S Γ σ τ H) {a : Addr} (n : H a = none) : S a = none := by
  cases e : S a with
  | none => rfl
  | some u => rw [h.base.sh a u e] at n; cases n
/-- a new tuple of what is held -/
theorem AtS.newT {a : Addr} {vs : List V} (h : AtS K g S Γ σ τ H) (n : H a = none) (d : Hds K S ps vs) : At K g Γ σ ((.ref a, .dat (rT ps)) :: τ) (upd H a (.tup vs)) :=
  ⟨_, (h.lay n).push (.of ⟨a, vs, rfl, SqT.of upd_same, d.mono fun b o e => by rw [upd_ne (ne_of_none e (nS_of h n))]; exact e⟩)⟩
theorem o1_tuple (hl : IsQ Γ t ps) : O1 K Γ (fun x => rTuple K [x]) t (.dat (rT ps)) := fun g σ τ H x Q ⟨S, h⟩ k => by
  cases hl with
  | l hl =>
    obtain ⟨a, vs, rfl, h2, h3⟩ := h.isL List.mem_cons_self hl
    exact ⟨a, vs, rfl, .inl ⟨h2, fun l hn => k _ _ (h.pop.newT hn h3)⟩⟩
  | t =>
    have q := h.top
    obtain ⟨a, vs, rfl, h2, h3⟩ := h.isT List.mem_cons_self
    exact ⟨a, vs, rfl, .inr ⟨h2, k _ H ⟨S, h.pop.push q⟩⟩⟩

/-! ### an item -/
def idx {α : Type} (xs : List α) (i : Int) : R α := match atI xs i with
  | some a => .nx a
  | none => .stuck
theorem atI_hds {vs : List V} {j : Int} {p : VP} (d : Hds K S ps vs) (h : atI ps j = some p) : ∃ v, atI vs j = some v ∧ Hd K p v S := by
  unfold atI at h ⊢
  rw [d.len]
  cases e : ixN ps.length j with
  | none => rw [e] at h; cases h
  | some m =>
    rw [e] at h
    have h' : ps[m]? = some p := h
    obtain ⟨v, h1, h2⟩ := d.get h'
    exact ⟨v, h1, h2⟩
theorem atI_map {xs : List α} {j : Int} {a : α} (h : atI xs j = some a) : atI (xs.map e) j = some (e a) := by
  unfold atI at h ⊢
  rw [List.length_map]
  cases e1 : ixN xs.length j with
  | none => rw [e1] at h; cases h
  | some m =>
    rw [e1] at h
    have h' : xs[m]? = some a := h
    show (xs.map e)[m]? = some (e a)
    rw [List.getElem?_map, h']
    rfl
theorem o2_idxL {xs : List α} {j : Int} (hl : IsL Γ t (xs.map e)) : O2M K Γ (rIxL K) t (.dat (eI j)) (idx xs j) (fun a => .dat (e a)) := fun g σ τ H x y Q E ⟨S, h⟩ hm => by
  unfold idx at hm
  cases e1 : atI xs j with
  | none => rw [e1] at hm; exact hm.elim
  | some a =>
    rw [e1] at hm
    obtain ⟨b, vs, rfl, h2, h3⟩ := h.isL (List.mem_cons_of_mem _ List.mem_cons_self) hl
    obtain ⟨w, h4, h5⟩ := atI_hds h3 (atI_map e1)
    exact ⟨b, vs, j, w, rfl, h.top.i, h2, h4, hm _ H ⟨S, h.pop.pop.push h5⟩⟩
theorem o2_idxT {xs : List α} {j : Int} : O2M K Γ (rIxT K) (.dat (eT e xs)) (.dat (eI j)) (idx xs j) (fun a => .dat (e a)) := fun g σ τ H x y Q E ⟨S, h⟩ hm => by
  unfold idx at hm
  cases e1 : atI xs j with
  | none => rw [e1] at hm; exact hm.elim
  | some a =>
    rw [e1] at hm
    obtain ⟨b, vs, rfl, h2, h3⟩ := h.isT (List.mem_cons_of_mem _ List.mem_cons_self)
    obtain ⟨w, h4, h5⟩ := atI_hds h3 (atI_map e1)
    exact ⟨b, vs, j, w, rfl, h.top.i, h2, h4, hm _ H ⟨S, h.pop.pop.push h5⟩⟩
/-- a written place of a tuple whose places are told -/
theorem o2_ixK {j : Int} (h : atI ps j = some p := by rfl) : O2 K Γ (rIxT K) (.dat (rT ps)) (.dat (eI j)) (.dat p) := fun g σ τ H x y Q ⟨S, hA⟩ k => by
  obtain ⟨b, vs, rfl, h2, h3⟩ := hA.isT (List.mem_cons_of_mem _ List.mem_cons_self)
  obtain ⟨w, h4, h5⟩ := atI_hds h3 h
  exact ⟨b, vs, j, w, rfl, hA.top.i, h2, h4, k _ H ⟨S, hA.pop.pop.push h5⟩⟩

/-! ### slices -/
def cutL {α : Type} (xs : List α) (lo hi : Option Int) : List α := (xs.drop (HT.sIx xs.length 0 lo)).take (HT.sIx xs.length xs.length hi - HT.sIx xs.length 0 lo)
theorem cutL_map (xs : List α) (lo hi : Option Int) : (cutL xs lo hi).map e = cutL (xs.map e) lo hi := by
  unfold cutL
  rw [List.map_take, List.map_drop, List.length_map]
theorem cut_hds {vs : List V} (d : Hds K S ps vs) (lo hi : Option Int) : Hds K S (cutL ps lo hi) (cutV vs lo hi) := by
  unfold cutL cutV
  rw [d.len]
  exact (d.drop _).take _
/-- a bound of a slice -/
def EVO (K : PySem.W.Frag) (Γ : List (Option Tm)) (to : TO) (o : Option Int) : Prop := ∀ g σ τ H (Q : Option Int → Hp → Prop), At K g Γ σ τ H → (∀ H', At K g Γ σ τ H' → Q o H') → to σ H Q
theorem evo_none : EVO K Γ tNoPart none := fun g σ τ H Q hA k => k H hA
theorem evo_some {j : Int} (h : EV K Γ te (.dat (eI j))) : EVO K Γ (tPart te) (some j) := fun g σ τ H Q hA k => h g σ τ H _ hA fun v H' ⟨S, h'⟩ => ⟨j, h'.top.i, k H' ⟨S, h'.pop⟩⟩
def O1S (K : PySem.W.Frag) (Γ : List (Option Tm)) (r : V → Option Int → Option Int → Hp → VK → Prop) (t : Tm) (lo hi : Option Int) (z : Tm) : Prop := ∀ g σ τ H x (Q : VK), At K g Γ σ ((x, t) :: τ) H → (∀ v H', At K g Γ σ ((v, z) :: τ) H' → Q v H') → r x lo hi H Q
theorem ev_slice {r : V → Option Int → Option Int → Hp → VK → Prop} {tl th : TO} {lo hi : Option Int} (h : EV K Γ te t) (hl : EVO K Γ tl lo) (hh : EVO K Γ th hi) (ho : O1S K Γ r t lo hi z) : EV K Γ (tSl r te tl th) z := fun g σ τ H Q hA k =>
  h g σ τ H _ hA fun x H1 h1 => hl g σ _ H1 _ h1 fun H2 h2 => hh g σ _ H2 _ h2 fun H3 h3 => ho g σ τ H3 x Q h3 k
theorem o1_cutL {lo hi : Option Int} (hl : IsL Γ t ps) : O1S K Γ (rSlL K) t lo hi (.own none (.lst (cutL ps lo hi))) := fun g σ τ H x Q ⟨S, h⟩ k => by
  obtain ⟨a, vs, rfl, h2, h3⟩ := h.isL List.mem_cons_self hl
  exact ⟨a, vs, rfl, h2, fun p hn => k _ _ ⟨S, h.pop.fresh hn ⟨_, rfl, cut_hds h3 lo hi⟩⟩⟩
theorem o1_cutLT {xs : List α} {lo hi : Option Int} (hl : IsL Γ t (xs.map e)) : O1S K Γ (rSlL K) t lo hi (.own none (.lst ((cutL xs lo hi).map e))) := by
  rw [cutL_map]
  exact o1_cutL hl
theorem whole_cut {vs : List V} {lo hi : Option Int} (h : HT.sIx vs.length 0 lo = 0 ∧ HT.sIx vs.length vs.length hi = vs.length) : cutV vs lo hi = vs := by
  unfold cutV
  rw [h.1, h.2, List.drop_zero, Nat.sub_zero, List.take_length]
theorem o1_cutT {lo hi : Option Int} : O1S K Γ (rSlA K) (.dat (rT ps)) lo hi (.dat (rT (cutL ps lo hi))) := fun g σ τ H x Q ⟨S, h⟩ k => by
  obtain ⟨a, vs, rfl, h2, h3⟩ := Hd.t h.top
  have d := cut_hds h3 lo hi
  refine ⟨a, vs, rfl, same_t h.base.sh h2, fun hw => k _ H ⟨S, h.pop.push (.of ⟨a, vs, rfl, h2, by rw [whole_cut hw] at d; exact d⟩)⟩, fun _ p hn => k _ _ (h.pop.newT hn d)⟩
theorem o1_cutTT {xs : List α} {lo hi : Option Int} : O1S K Γ (rSlA K) (.dat (eT e xs)) lo hi (.dat (eT e (cutL xs lo hi))) := by
  unfold eT
  rw [cutL_map]
  exact o1_cutT

/-! ### + of tuples, of own lists -/
def catR {α : Type} (xs ys : List α) : R (List α) := gd (decide (xs.length + ys.length ≤ 1000000)) (xs ++ ys)
theorem le_line {n : Nat} (h : n ≤ 1000000) : n ≤ sizeLine := by rw [sizeLine_eq]; omega
theorem lt_line {n : Nat} (h : n < 1000000) : n < sizeLine := by rw [sizeLine_eq]; omega
theorem o2_catP (hz : ps.length + qs.length ≤ 1000000) : O2 K Γ (rCatA K) (.dat (rT ps)) (.dat (rT qs)) (.dat (rT (ps ++ qs))) := fun g σ τ H x y Q ⟨S, h⟩ k => by
  obtain ⟨a, vs, rfl, h2, h3⟩ := Hd.t h.pop.top
  obtain ⟨b, ws, rfl, k2, k3⟩ := Hd.t h.top
  have d := h3.append k3
  have hz' : vs.length + ws.length ≤ sizeLine := by rw [h3.len, k3.len]; exact le_line hz
  refine ⟨a, b, vs, ws, rfl, rfl, same_t h.base.sh h2, same_t h.base.sh k2, hz', fun e => ?_, fun _ e => ?_, fun _ _ p hn => k _ _ (h.pop.pop.newT hn d)⟩
  · refine k _ H ⟨S, h.pop.pop.push (.of ⟨b, ws, rfl, k2, ?_⟩)⟩
    rw [e] at d; exact d
  · refine k _ H ⟨S, h.pop.pop.push (.of ⟨a, vs, rfl, h2, ?_⟩)⟩
    rw [e, List.append_nil] at d; exact d
theorem o2_catT {xs ys : List α} : O2M K Γ (rCatA K) (.dat (eT e xs)) (.dat (eT e ys)) (catR xs ys) (fun c => .dat (eT e c)) := At.part2 fun h => by
  have := o2_catP (K := K) (Γ := Γ) (ps := xs.map e) (qs := ys.map e) (by rw [List.length_map, List.length_map]; exact of_decide_eq_true h)
  rw [← List.map_append] at this
  exact this
/-- an own list, or an alias of one -/
inductive IsO (G : List (Option Tm)) : Tm → List VP → Prop
  | als {i : Nat} {oa : Option Addr} {ps : List VP} (h : G[i]? = some (some (.own oa (.lst ps)))) : IsO G (.als i) ps
  | own {oa : Option Addr} {ps : List VP} : IsO G (.own oa (.lst ps)) ps
theorem AtS.isO (h : AtS K g S Γ σ τ H) (hm : (v, t) ∈ τ) (hl : IsO Γ t ps) : ∃ a vs, v = .ref a ∧ H a = some (.lst vs) ∧ Hds K S ps vs := by
  have q := h.all _ (List.mem_append_right _ hm)
  cases hl with
  | als hg =>
    obtain ⟨w, e, o, _⟩ := h.slot hg
    have q' : σ[_]? = some (some v) := q
    rw [e] at q'
    cases q'
    obtain ⟨a, o, h1, _, _, _, h4, vs, rfl, d⟩ := o
    exact ⟨a, vs, h1, h4, d⟩
  | own =>
    obtain ⟨a, o, h1, _, _, _, h4, vs, rfl, d⟩ := q
    exact ⟨a, vs, h1, h4, d⟩
theorem o2_catL {xs ys : List α} (h1 : IsO Γ t (xs.map e)) (h2 : IsO Γ u (ys.map e)) : O2M K Γ rCat t u (catR xs ys) (fun c => .own none (.lst (c.map e))) := At.part2 fun hz => fun g σ τ H x y Q ⟨S, h⟩ k => by
  obtain ⟨a, vs, rfl, a2, a3⟩ := h.isO (List.mem_cons_of_mem _ List.mem_cons_self) h1
  obtain ⟨b, ws, rfl, b2, b3⟩ := h.isO List.mem_cons_self h2
  have hz' : xs.length + ys.length ≤ 1000000 := of_decide_eq_true hz
  refine ⟨a, b, vs, ws, rfl, rfl, a2, b2, ?_, fun p hn => k _ _ ⟨S, h.pop.pop.fresh hn ⟨_, rfl, ?_⟩⟩⟩
  · rw [a3.len, b3.len, List.length_map, List.length_map]; exact le_line hz'
  · rw [List.map_append]; exact a3.append b3
end

/-! ### stepping into a reading -/
section
variable {σ : St} {H : Hp} {Q : VK} {ta tb te : TE} {t : TA} {r : R2}
theorem x_op (h : ta σ H fun x H1 => tb σ H1 fun y H2 => r x y H2 Q) : tOp r ta tb σ H Q := h
theorem x_un {r : V → Hp → VK → Prop} (h : ta σ H fun x H1 => r x H1 Q) : tUn r ta σ H Q := h
theorem x_cb1 {r : List V → Hp → VK → Prop} (h : ta σ H fun x H1 => r [x] H1 Q) : tCB r (tCons ta tNil) σ H Q := h
theorem x_cb2 {r : List V → Hp → VK → Prop} (h : ta σ H fun x H1 => tb σ H1 fun y H2 => r [x, y] H2 Q) : tCB r (tCons ta (tCons tb tNil)) σ H Q := h
theorem x_if {tc : TT} (h : tc σ H fun c H1 => if c = true then ta σ H1 Q else tb σ H1 Q) : tIf tc ta tb σ H Q := h
theorem x_bm1 {K : PySem.W.Frag} {T : String} {r : V → List V → Hp → VK → Prop} (h : ta σ H fun x H1 => tyV K T x H1 ∧ tb σ H1 fun y H2 => r x [y] H2 Q) : tBM K T r ta (tCons tb tNil) σ H Q := h
theorem x_bm0 {K : PySem.W.Frag} {T : String} {r : V → List V → Hp → VK → Prop} (h : ta σ H fun x H1 => tyV K T x H1 ∧ r x [] H1 Q) : tBM0 K T r ta σ H Q := h
theorem x_drop {u : TS} {D : Ends} (h : te σ H fun _ H1 => u D σ H1) : tSeq (tDrop te) u D σ H := h
theorem x_asg {u : TS} {D : Ends} {g : TG} (h : te σ H fun x H1 => g x σ H1 (u D)) : tSeq (tAsg te g) u D σ H := h
theorem x_ret {u : TS} {D : Ends} (h : te σ H D.rt) : tSeq (tRet te) u D σ H := h
theorem x_ifS {u w z : TS} {D : Ends} {tc : TT} (h : tc σ H fun b H1 => if b = true then u { D with nx := z D } σ H1 else w { D with nx := z D } σ H1) : tSeq (tIfS tc u w) z D σ H := h
theorem x_test {te : TE} {Q : Bool → Hp → Prop} (h : te σ H fun x H' => ∃ k, x = .bl k ∧ Q k H') : tTest te σ H Q := h
theorem x_B {te : TE} {Q : Bool → Hp → Prop} (h : te σ H fun x H' => ∃ k, x = .bl k ∧ Q k H') : tB te σ H Q := h
end

/-! ### errors, def's promises -/
/-- an exception's own dict -/
def XF (K : PySem.W.Frag) (S : Hp) (x : Er) (d : Option Addr) : Prop :=
  (x.fs = [] ∧ d = none) ∨ ∃ dd fsV, d = some dd ∧ S dd = some (.xd fsV) ∧ Paired (fun (p : Str × PyData) (q : Str × V) => p.1 = q.1 ∧ Hd K (eD p.2) q.2 S) x.fs fsV
def ErP (K : PySem.W.Frag) (EC : Str → Addr) (g : Gh) (Gw : List (Option Tm)) (x : Er) (EW : St → XK) : Prop :=
  ∀ σ' H' S' d, AtS K g S' Gw σ' [] H' → XF K S' x d → EW σ' (.ref (EC x.c)) d H'
def Spec (K : PySem.W.Frag) (EC : Str → Addr) {α ρ : Type} (n : Nat) (pre : α → List Addr → List (Option Tm)) (m : α → R ρ) (post : ρ → List Addr → List (Option Tm)) (ret : ρ → Tm) : Sp := fun vs H Q E =>
  vs.length = n ∧ ∃ (x : α) (as : List Addr) (g : Gh), (pre x as).length = n ∧ At K g (pre x as) (vs.map some) [] H ∧
    OutR (m x) (fun r => ∀ v H' σ', At K g (post r as) σ' [(v, ret r)] H' → Q v H') (fun x => ErP K EC g [] x fun _ => E)

/-- an argument: a datum, or the own cell of slot i -/
inductive AK where
  | d (p : VP)
  | o (i : Nat) (oa : Option Addr) (c : Cell)
def AK.tm : AK → Tm
  | .d p => .dat p
  | .o i _ _ => .als i
def preOf : List AK → List Addr → List (Option Tm)
  | [], _ => []
  | .d p :: A, as => some (.dat p) :: preOf A as
  | .o _ _ c :: A, a :: as => some (.own (some a) c) :: preOf A as
  | .o _ _ c :: A, [] => some (.own none c) :: preOf A []
/-- what the callee leaves of its own arguments, by its places -/
def postOf : List AK → List Cell → List Addr → List (Option Tm)
  | [], _, _ => []
  | .d _ :: A, cs, as => none :: postOf A cs as
  | .o _ _ _ :: A, c :: cs, a :: as => some (.own (some a) c) :: postOf A cs as
  | .o _ _ _ :: A, _, _ => none :: postOf A [] []
/-- the caller's slots behind the call -/
def newG : List AK → List Cell → List (Option Tm) → List (Option Tm)
  | [], _, G => G
  | .d _ :: A, cs, G => newG A cs G
  | .o i oa _ :: A, c :: cs, G => (newG A cs (G.set i none)).set i (some (.own oa c))
  | .o i _ _ :: A, [], G => newG A [] (G.set i none)
def dropG : List AK → List (Option Tm) → List (Option Tm)
  | [], G => G
  | .d _ :: A, G => dropG A G
  | .o i _ _ :: A, G => dropG A (G.set i none)
/-- the own arguments are slots of the caller, no one twice -/
def OkA : List AK → List (Option Tm) → Prop
  | [], _ => True
  | .d _ :: A, G => OkA A G
  | .o i oa c :: A, G => G[i]? = some (some (.own oa c)) ∧ OkA A (G.set i none)
def nOwn : List AK → Nat
  | [] => 0
  | .d _ :: A => nOwn A
  | .o _ _ _ :: A => nOwn A + 1

/-- AtS without the aliases' slots -/
structure At0 (K : PySem.W.Frag) (g : Gh) (S : Hp) (Γ : List (Option Tm)) (σ : St) (τ : List (V × Tm)) (H : Hp) : Prop where
  base : Base g S H
  len : Γ.length ≤ σ.length
  all : ∀ x ∈ pack σ Γ ++ τ, One K g S H σ x
  ns : ∀ x ∈ pack σ Γ, ∀ j, x.2 ≠ .als j
  nd : (addrs (pack σ Γ ++ τ)).Nodup
def ownE : List AK → List Addr → List (V × Tm)
  | [], _ => []
  | .d _ :: A, as => ownE A as
  | .o _ oa c :: A, a :: as => (.ref a, .own oa c) :: ownE A as
  | .o _ _ _ :: A, [] => ownE A []
def ownE' : List AK → List Cell → List Addr → List (V × Tm)
  | [], _, _ => []
  | .d _ :: A, cs, as => ownE' A cs as
  | .o _ oa _ :: A, c :: cs, a :: as => (.ref a, .own oa c) :: ownE' A cs as
  | .o _ _ _ :: A, _, _ => ownE' A [] []

section
variable {K : PySem.W.Frag} {Γ : List (Option Tm)} {g : Gh} {S H : Hp} {σ : St} {τ : List (V × Tm)} {v x y : V} {t u z w : Tm} {p q : VP} {ps qs : List VP} {i : Nat}
theorem AtS.at0 (h : AtS K g S Γ σ τ H) : At0 K g S Γ σ τ H := ⟨h.base, h.len, h.all, h.ns, h.nd⟩
theorem At0.take {oa : Option Addr} {c : Cell} (h : At0 K g S Γ σ τ H) (e : Γ[i]? = some (some (.own oa c))) : ∃ a, σ[i]? = some (some (.ref a)) ∧ OwnAt K g S H (.ref a) oa c ∧ At0 K g S (Γ.set i none) σ ((.ref a, .own oa c) :: τ) H := by
  rcases pack_get e h.len with ⟨v, h1, h2⟩ | b
  · have q := h.all _ (List.mem_append_left _ (h2.mem_iff.mpr List.mem_cons_self))
    obtain ⟨a, o, e1, r⟩ := id q
    have e1' : v = V.ref a := e1
    subst e1'
    have p : (pack σ Γ ++ τ).Perm (pack σ (Γ.set i none) ++ (V.ref a, Tm.own oa c) :: τ) := (h2.append_right τ).trans List.perm_middle.symm
    exact ⟨a, h1, q, h.base, by rw [List.length_set]; exact h.len, fun x hx => h.all x (p.mem_iff.mpr hx), fun x hx => h.ns x ((pack_drop Γ σ i).subset hx), (addrs_perm p).nodup_iff.mp h.nd⟩
  · exact (h.all _ (List.mem_append_left _ b)).elim
theorem At0.put (h : At0 K g S Γ σ ((v, t) :: τ) H) (hi : i < Γ.length) (e : σ[i]? = some (some v)) (ht : ∀ j, t ≠ .als j) (hn : Γ[i]? = some none) : At0 K g S (Γ.set i (some t)) σ τ H := by
  have hs : σ.set i (some v) = σ := by
    apply List.ext_getElem?
    intro j
    by_cases hj : i = j
    · subst hj
      rw [List.getElem?_set_self (List.getElem?_eq_some_iff.mp e).1, e]
    · rw [List.getElem?_set_ne hj]
  have eΓ : Γ.set i none = Γ := by
    apply List.ext_getElem?
    intro j
    by_cases hj : i = j
    · subst hj
      rw [List.getElem?_set_self hi, hn]
    · rw [List.getElem?_set_ne hj]
  have p := pack_set (Γ := Γ) (σ := σ) (i := i) v t hi h.len
  rw [hs, eΓ] at p
  have p2 : (pack σ (Γ.set i (some t)) ++ τ).Perm (pack σ Γ ++ (v, t) :: τ) := (p.append_right τ).trans List.perm_middle.symm
  refine ⟨h.base, by rw [List.length_set]; exact h.len, fun x hx => h.all x (p2.mem_iff.mp hx), fun x hx j => ?_, (addrs_perm p2).nodup_iff.mpr h.nd⟩
  rcases List.mem_cons.mp (p.mem_iff.mp hx) with rfl | hx
  · exact ht j
  · exact h.ns x hx j

/-- what is known of the arguments -/
inductive Args (K : PySem.W.Frag) (g : Gh) (S H : Hp) (σ : St) : List AK → List V → List Addr → Prop
  | nil : Args K g S H σ [] [] []
  | d {p : VP} {v : V} {A : List AK} {vs : List V} {as : List Addr} : Hd K p v S → Args K g S H σ A vs as → Args K g S H σ (.d p :: A) (v :: vs) as
  | o {i : Nat} {oa : Option Addr} {c : Cell} {a : Addr} {A : List AK} {vs : List V} {as : List Addr} : σ[i]? = some (some (.ref a)) → OwnAt K g S H (.ref a) oa c → Args K g S H σ A vs as → Args K g S H σ (.o i oa c :: A) (.ref a :: vs) (a :: as)
theorem AtS.pops : ∀ {l : List (V × Tm)} {τ : List (V × Tm)}, AtS K g S Γ σ (l ++ τ) H → AtS K g S Γ σ τ H
  | [], _, h => h
  | _ :: l, _, h => AtS.pops (l := l) h.pop
/-- the arguments on the stack -/
theorem args_of : ∀ {A : List AK} {vs : List V} {Γ : List (Option Tm)} {τ : List (V × Tm)}, (∀ x ∈ (vs.zip (A.map AK.tm)), One K g S H σ x) → vs.length = A.length → OkA A Γ → At0 K g S Γ σ τ H →
    ∃ as, Args K g S H σ A vs as ∧ At0 K g S (dropG A Γ) σ (ownE A as ++ τ) H
  | [], [], Γ, τ, _, _, _, h0 => ⟨[], .nil, h0⟩
  | [], _ :: _, _, _, _, e, _, _ => by simp at e
  | _ :: _, [], _, _, _, e, _, _ => by simp at e
  | .d p :: A, v :: vs, Γ, τ, h, e, ok, h0 => by
    obtain ⟨as, h1, h2⟩ := args_of (A := A) (vs := vs) (Γ := Γ) (τ := τ) (fun x hx => h x (by simp [hx])) (by simpa using e) ok h0
    exact ⟨as, .d (h (v, .dat p) (by simp [AK.tm])) h1, h2⟩
  | .o i oa c :: A, v :: vs, Γ, τ, h, e, ok, h0 => by
    obtain ⟨a, e1, ow, h3⟩ := h0.take ok.1
    have q : σ[i]? = some (some v) := h (v, .als i) (by simp [AK.tm])
    rw [e1] at q
    obtain rfl : V.ref a = v := by simpa using q
    obtain ⟨as, h1, h2⟩ := args_of (A := A) (vs := vs) (Γ := Γ.set i none) (τ := (.ref a, .own oa c) :: τ) (fun x hx => h x (by simp [hx])) (by simpa using e) ok.2 h3
    refine ⟨a :: as, .o e1 ow h1, ?_⟩
    have pm : (pack σ (dropG A (Γ.set i none)) ++ (ownE A as ++ (V.ref a, Tm.own oa c) :: τ)).Perm (pack σ (dropG A (Γ.set i none)) ++ ((V.ref a, Tm.own oa c) :: ownE A as ++ τ)) := (List.perm_middle).append_left _
    exact ⟨h2.base, h2.len, fun x hx => h2.all x (pm.mem_iff.mpr hx), h2.ns, (addrs_perm pm).nodup_iff.mp h2.nd⟩
theorem addrs_ownE : ∀ {A : List AK} {vs : List V} {as : List Addr}, Args K g S H σ A vs as → addrs (ownE A as) = as
  | [], _, _, .nil => rfl
  | .d _ :: A, _, _, .d _ h => addrs_ownE (A := A) h
  | .o _ _ _ :: A, _, _, .o _ _ h => by simp [ownE, addrs, addrs_ownE (A := A) h]
theorem preOf_len : ∀ {A : List AK} {vs : List V} {as : List Addr}, Args K g S H σ A vs as → (preOf A as).length = vs.length
  | [], _, _, .nil => rfl
  | .d _ :: A, _, _, .d _ h => by simp [preOf, preOf_len (A := A) h]
  | .o _ _ _ :: A, _, _, .o _ _ h => by simp [preOf, preOf_len (A := A) h]
/-- how the callee finds its arguments -/
theorem pack_pre {F' : Hp} : ∀ {A : List AK} {vs : List V} {as : List Addr}, Args K g S H σ A vs as → (∀ a ∈ as, F' a = none) →
    (∀ x ∈ pack (vs.map some) (preOf A as), One K ⟨S, F'⟩ S H (vs.map some) x ∧ ∀ j, x.2 ≠ .als j) ∧ addrs (pack (vs.map some) (preOf A as)) = as := by
  intro A vs as h hf
  suffices ∀ σ', (∀ x ∈ pack (vs.map some) (preOf A as), One K ⟨S, F'⟩ S H σ' x ∧ ∀ j, x.2 ≠ .als j) ∧ addrs (pack (vs.map some) (preOf A as)) = as from this _
  intro σ'
  induction h with
  | nil => exact ⟨fun x hx => by simp [preOf, pack] at hx, rfl⟩
  | @d p v A vs as h1 _ ih =>
    obtain ⟨i1, i2⟩ := ih hf
    refine ⟨fun x hx => ?_, ?_⟩
    · rcases List.mem_cons.mp (show x ∈ (v, Tm.dat p) :: pack (vs.map some) (preOf A as) from hx) with rfl | hx
      · exact ⟨h1, fun j z => by cases z⟩
      · exact i1 x hx
    · show addrs ((v, Tm.dat p) :: pack (vs.map some) (preOf A as)) = as
      cases v <;> simpa [addrs] using i2
  | @o i oa c a A vs as h1 h2 _ ih =>
    obtain ⟨i1, i2⟩ := ih fun b hb => hf b (List.mem_cons_of_mem _ hb)
    refine ⟨fun x hx => ?_, ?_⟩
    · rcases List.mem_cons.mp (show x ∈ (V.ref a, Tm.own (some a) c) :: pack (vs.map some) (preOf A as) from hx) with rfl | hx
      · refine ⟨?_, fun j z => by cases z⟩
        obtain ⟨a', o, e, _, k2, _, k4, k5⟩ := h2
        cases e
        exact ⟨a, o, rfl, fun b e => (Option.some.inj e).symm, k2, hf a List.mem_cons_self, k4, k5⟩
      · exact i1 x hx
    · show addrs ((V.ref a, Tm.own (some a) c) :: pack (vs.map some) (preOf A as)) = a :: as
      simp [addrs, i2]
/-- what the callee leaves of them -/
theorem post_own {S2 H2 : Hp} {g' : Gh} {σ2 : St} : ∀ {A : List AK} {vs : List V} {as : List Addr} {cs : List Cell} {σ3 : St}, Args K g S H σ A vs as → cs.length = nOwn A → (∀ x ∈ pack σ3 (postOf A cs as), One K g' S2 H2 σ2 x) →
    (∀ x ∈ ownE' A cs as, One K g S2 H2 σ x) ∧ addrs (ownE' A cs as) = as ∧ ∀ a ∈ as, a ∈ addrs (pack σ3 (postOf A cs as)) := by
  intro A vs as cs σ3 h
  induction h generalizing cs σ3 with
  | nil => intro _ _; exact ⟨fun x hx => by simp [ownE'] at hx, rfl, fun a ha => by cases ha⟩
  | @d p v A vs as h1 _ ih =>
    intro hc hp
    exact ih (σ3 := σ3.tail) hc fun x hx => hp x hx
  | @o i oa c a A vs as h1 h2 _ ih =>
    intro hc hp
    cases cs with
    | nil => simp [nOwn] at hc
    | cons c' cs =>
      have hd : ∃ w r, (w, Tm.own (some a) c') ∈ pack σ3 (postOf (.o i oa c :: A) (c' :: cs) (a :: as)) ∧ r = σ3.tail ∧ (∀ x ∈ pack r (postOf A cs as), x ∈ pack σ3 (postOf (.o i oa c :: A) (c' :: cs) (a :: as))) := by
        cases σ3 with
        | nil =>
          exact ((hp (V.non, Tm.bad) (by simp [postOf, pack])) : False).elim
        | cons y r =>
          cases y with
          | none => exact ((hp (V.non, Tm.bad) (by simp [postOf, pack])) : False).elim
          | some w => exact ⟨w, r, by simp [postOf, pack], rfl, fun x hx => by simp [postOf, pack, hx]⟩
      obtain ⟨w, r, m1, _, m2⟩ := hd
      obtain ⟨i1, i2, i3⟩ := ih (cs := cs) (σ3 := r) (by simpa [nOwn] using hc) fun x hx => hp x (m2 x hx)
      obtain ⟨a1, o1, e1, e2, k2, _, k4, k5⟩ := hp _ m1
      have ea : a = a1 := e2 a rfl
      subst ea
      obtain ⟨a0, o0, e0, j1, _, j3, _, _⟩ := h2
      cases e0
      refine ⟨fun x hx => ?_, by simp [ownE', addrs, i2], fun b hb => ?_⟩
      rotate_left
      · have ew : w = V.ref a := e1
        rcases List.mem_cons.mp hb with rfl | hb
        · rw [ew] at m1
          exact mem_addrs m1
        · obtain ⟨oa2, c2, hx⟩ := addrs_mem (i3 b hb)
          exact mem_addrs (m2 _ hx)
      rcases List.mem_cons.mp (show x ∈ (V.ref a, Tm.own oa c') :: ownE' A cs as from hx) with rfl | hx
      · exact ⟨a, o1, rfl, j1, k2, j3, k4, k5⟩
      · exact i1 x hx
theorem newG_len : ∀ (A : List AK) (cs : List Cell) (G : List (Option Tm)), (newG A cs G).length = G.length
  | [], _, _ => rfl
  | .d _ :: A, cs, G => newG_len A cs G
  | .o i _ _ :: A, c :: cs, G => by simp [newG, newG_len A cs]
  | .o i _ _ :: A, [], G => by simp [newG, newG_len A []]
/-- slots that are no arguments stay -/
theorem newG_none : ∀ (A : List AK) (cs : List Cell) (G : List (Option Tm)) (i : Nat), G[i]? = some none → OkA A G → (newG A cs G)[i]? = some none
  | [], _, _, _, h, _ => h
  | .d _ :: A, cs, G, i, h, ok => newG_none A cs G i h ok
  | .o j oa c :: A, c' :: cs, G, i, h, ok => by
    have hj : j ≠ i := fun z => by rw [z] at ok; rw [ok.1] at h; cases h
    show ((newG A cs (G.set j none)).set j _)[i]? = some none
    rw [List.getElem?_set_ne hj]
    exact newG_none A cs (G.set j none) i (by rw [List.getElem?_set_ne hj]; exact h) ok.2
  | .o j oa c :: A, [], G, i, h, ok => by
    have hj : j ≠ i := fun z => by rw [z] at ok; rw [ok.1] at h; cases h
    exact newG_none A [] (G.set j none) i (by rw [List.getElem?_set_ne hj]; exact h) ok.2
theorem newG_own : ∀ (A : List AK) (cs : List Cell) (G : List (Option Tm)) (k : Nat), cs.length = nOwn A → OkA A G → (∃ oa c, G[k]? = some (some (.own oa c))) → ∃ oa c, (newG A cs G)[k]? = some (some (.own oa c))
  | [], _, _, _, _, _, h => h
  | .d _ :: A, cs, G, k, hc, ok, h => newG_own A cs G k hc ok h
  | .o j oa c :: A, [], G, k, hc, ok, h => by simp [nOwn] at hc
  | .o j oa c :: A, c' :: cs, G, k, hc, ok, h => by
    by_cases hj : j = k
    · subst hj
      refine ⟨oa, c', ?_⟩
      show ((newG A cs (G.set j none)).set j _)[j]? = _
      rw [List.getElem?_set_self]
      rw [newG_len, List.length_set]
      exact (List.getElem?_eq_some_iff.mp ok.1).1
    · show ∃ oa' c'', ((newG A cs (G.set j none)).set j _)[k]? = _
      rw [List.getElem?_set_ne hj]
      exact newG_own A cs (G.set j none) k (by simpa [nOwn] using hc) ok.2 (by rw [List.getElem?_set_ne hj]; exact h)
/-- they come back to their slots -/
theorem put_back {S2 H2 : Hp} : ∀ {A : List AK} {vs : List V} {as : List Addr} {cs : List Cell} {Γ : List (Option Tm)} {τ : List (V × Tm)}, Args K g S H σ A vs as → cs.length = nOwn A → OkA A Γ →
    At0 K g S2 (dropG A Γ) σ (ownE' A cs as ++ τ) H2 → At0 K g S2 (newG A cs Γ) σ τ H2
  | [], _, _, _, _, _, .nil, _, _, h => h
  | .d _ :: A, _, _, _, _, _, .d _ a, hc, ok, h => put_back (A := A) a hc ok h
  | .o i oa c :: A, _, _, [], _, _, .o _ _ _, hc, _, _ => by simp [nOwn] at hc
  | .o i oa c :: A, _, a :: as, c' :: cs, Γ, τ, .o e1 ow ar, hc, ok, h => by
    have pm : (pack σ (dropG A (Γ.set i none)) ++ ((V.ref a, Tm.own oa c') :: ownE' A cs as ++ τ)).Perm (pack σ (dropG A (Γ.set i none)) ++ (ownE' A cs as ++ (V.ref a, Tm.own oa c') :: τ)) := (List.perm_middle.symm).append_left _
    have h' : At0 K g S2 (dropG A (Γ.set i none)) σ (ownE' A cs as ++ (V.ref a, Tm.own oa c') :: τ) H2 := ⟨h.base, h.len, fun x hx => h.all x (pm.mem_iff.mpr hx), h.ns, (addrs_perm pm).nodup_iff.mp h.nd⟩
    have h2 := put_back (A := A) ar (by simpa [nOwn] using hc) ok.2 h'
    have hi : i < Γ.length := (List.getElem?_eq_some_iff.mp ok.1).1
    refine h2.put (i := i) (by rw [newG_len, List.length_set]; exact hi) e1 (fun j z => by cases z) ?_
    exact newG_none A cs (Γ.set i none) i (List.getElem?_set_self hi) ok.2

theorem Args.inF : ∀ {A : List AK} {vs : List V} {as : List Addr}, Args K g S H σ A vs as → ∀ a ∈ as, g.F a = none ∧ S a = none
  | _, _, _, .nil, a, h => by cases h
  | _, _, _, .d _ r, a, h => Args.inF r a h
  | _, _, _, .o _ ow r, a, h => by
    rcases List.mem_cons.mp h with rfl | h
    · obtain ⟨a', o, e, _, k2, k3, _⟩ := ow
      cases e
      exact ⟨k3, k2⟩
    · exact Args.inF r a h
theorem Args.n {A : List AK} {vs : List V} {as : List Addr} (h : Args K g S H σ A vs as) : as.length = nOwn A := by
  induction h with
  | nil => rfl
  | d _ _ ih => exact ih
  | o _ _ _ ih => simp [nOwn, ih]
/-- THE CALL of a def by its promise -/
theorem f_call {EC : Str → Addr} {α ρ : Type} {n : Nat} {pre : α → List Addr → List (Option Tm)} {m : α → R ρ} {post : ρ → List Addr → List (Option Tm)} {ret : ρ → Tm} {Q : VK} {vs : List V} {Γw : List (Option Tm)} {EW : St → XK}
    (A : List AK) (arg : α) (cs : ρ → List Cell) (hA : At K g Γ σ ((vs.zip (A.map AK.tm)).reverse ++ τ) H) (hl : vs.length = A.length) (hn : A.length = n) (ok : OkA A Γ)
    (hpre : ∀ as, as.length = nOwn A → pre arg as = preOf A as) (hcs : ∀ r, (cs r).length = nOwn A) (hpost : ∀ r as, as.length = nOwn A → post r as = postOf A (cs r) as) (hret : ∀ r j, ret r ≠ .als j) (hw : Le Γw (dropG A Γ))
    (hm : OutR (m arg) (fun r => ∀ v H', At K g (newG A (cs r) Γ) σ ((v, ret r) :: τ) H' → Q v H') (fun x => ErP K EC g Γw x EW)) : Spec K EC n pre m post ret vs H Q (EW σ) := by
  obtain ⟨S, h⟩ := hA
  have hl2 : vs.length = (A.map AK.tm).length := by simpa using hl
  have hτ := h.pops
  obtain ⟨as, ar, h0⟩ := args_of (A := A) (vs := vs) (Γ := Γ) (τ := τ) (fun x hx => h.all x (List.mem_append_right _ (List.mem_append_left _ (List.mem_reverse.mpr hx)))) hl ok hτ.at0
  have hcl := ar.n
  have nd0 := h0.nd
  have ndas : as.Nodup := by
    rw [addrs_append, addrs_append, addrs_ownE ar] at nd0
    exact (List.nodup_append.mp (List.nodup_append.mp nd0).2.1).1
  refine ⟨by rw [hl, hn], arg, as, ⟨S, fun b => if b ∈ as then none else H b⟩, by rw [hpre _ hcl, preOf_len ar, hl, hn], ?_, ?_⟩
  · rw [hpre _ hcl]
    obtain ⟨p1, p2⟩ := pack_pre (F' := fun b => if b ∈ as then none else H b) ar fun a ha => if_pos ha
    refine ⟨S, ⟨Same.refl S, h.base.sh, fun b o e => ?_, fun b _ h0 => h0⟩, ?_, fun x hx => ?_, fun x hx => ?_, fun x hx => (by cases hx), ?_⟩
    · have e : (if b ∈ as then none else H b) = some o := e
      by_cases hb : b ∈ as
      · rw [if_pos hb] at e; cases e
      · rw [if_neg hb] at e; exact e
    · rw [preOf_len ar, List.length_map]; exact Nat.le_refl _
    · rw [List.append_nil] at hx
      exact (p1 x hx).1
    · exact (p1 x hx).2
    · rw [List.append_nil, p2]; exact ndas
  · have F1 : ∀ b, (if b ∈ as then none else H b) = none → g.F b = none := fun b e => by
      by_cases hb : b ∈ as
      · exact (ar.inF b hb).1
      · rw [if_neg hb] at e
        cases e2 : g.F b with
        | none => rfl
        | some o => rw [h.base.fh b o e2] at e; cases e
    have F2 : ∀ b o, g.F b = some o → (if b ∈ as then none else H b) = some o := fun b o e => by
      have hb : b ∉ as := fun z => by rw [(ar.inF b z).1] at e; cases e
      rw [if_neg hb]; exact h.base.fh b o e
    -- the ground behind the call
    have ground : ∀ {S2 H2 : Hp}, Base ⟨S, fun b => if b ∈ as then none else H b⟩ S2 H2 → Base g S2 H2 := fun {S2 H2} B =>
      ⟨h.base.s0.trans B.s0, B.sh, fun b o e => B.fh b o (F2 b o e), fun b hb h0' => B.fs b (by
        obtain ⟨o, e⟩ := Option.ne_none_iff_exists'.mp hb
        show (if b ∈ as then none else H b) ≠ none
        rw [F2 b o e]; exact Option.some_ne_none o) (h.base.fs b hb h0')⟩
    have stay : ∀ {S2 H2 : Hp} {x : V × Tm}, Base ⟨S, fun b => if b ∈ as then none else H b⟩ S2 H2 → (∀ a oa c, x = (.ref a, .own oa c) → a ∉ as) → One K g S H σ x → One K g S2 H2 σ x := fun {S2 H2 x} B ha q => by
      obtain ⟨v, t⟩ := x
      refine q.keep B.s0 fun b ht hv => ?_
      obtain ⟨oa, c, rfl⟩ := ht
      subst hv
      have hb := ha b oa c rfl
      obtain ⟨a', o, e, _, k2, _, k4, _⟩ := q
      cases e
      have eF : (if b ∈ as then none else H b) = some o := by rw [if_neg hb]; exact k4
      exact ⟨(B.fs b (by show (if b ∈ as then none else H b) ≠ none; rw [eF]; exact Option.some_ne_none o) k2).trans k2.symm, (B.fh b o eF).trans k4.symm⟩
    have apart : ∀ x ∈ pack σ (dropG A Γ) ++ τ, ∀ a oa c, x = (V.ref a, Tm.own oa c) → a ∉ as := fun x hx a oa c e ha => by
      subst e
      have pm : (pack σ (dropG A Γ) ++ (ownE A as ++ τ)).Perm (ownE A as ++ (pack σ (dropG A Γ) ++ τ)) := by
        rw [← List.append_assoc, ← List.append_assoc]
        exact (List.perm_append_comm).append_right τ
      have nd1 := (addrs_perm pm).nodup_iff.mp nd0
      rw [addrs_append, addrs_ownE ar] at nd1
      exact (List.nodup_append.mp nd1).2.2 a ha a (mem_addrs hx) rfl
    refine hm.imp (fun r k v H2 σ2 h2 => ?_) fun x k σ2 H2 S2 dd h2 => ?_
    · obtain ⟨S2, h2⟩ := h2
      rw [hpost r as hcl] at h2
      obtain ⟨o1, o2, o3⟩ := post_own (g := g) (S := S) (H := H) (σ := σ) (g' := ⟨S, fun b => if b ∈ as then none else H b⟩) (S2 := S2) (H2 := H2) (σ2 := σ2) (σ3 := σ2) ar (hcs r) fun x hx => h2.all x (List.mem_append_left _ hx)
      have top : One K g S2 H2 σ (v, ret r) := by
        have q := h2.top
        cases e : ret r with
        | dat p => rw [e] at q; exact q
        | own oa c =>
          rw [e] at q
          obtain ⟨a, o, e1, e2, e3, e4, e5, e6⟩ := q
          exact ⟨a, o, e1, e2, e3, F1 a e4, e5, e6⟩
        | als j => exact absurd e (hret r j)
        | bad => rw [e] at q; exact q
      have B := ground h2.base
      have fin : At0 K g S2 (dropG A Γ) σ (ownE' A (cs r) as ++ (v, ret r) :: τ) H2 := by
        refine ⟨B, h0.len, fun x hx => ?_, h0.ns, ?_⟩
        · rcases List.mem_append.mp hx with hx | hx
          · exact stay h2.base (apart x (List.mem_append_left _ hx)) (h0.all x (List.mem_append_left _ hx))
          · rcases List.mem_append.mp hx with hx | hx
            · exact o1 x hx
            · rcases List.mem_cons.mp hx with rfl | hx
              · exact top
              · exact stay h2.base (apart x (List.mem_append_right _ hx)) (h0.all x (List.mem_append_right _ (List.mem_append_right _ hx)))
        · have base_nd : (addrs (pack σ (dropG A Γ) ++ (ownE' A (cs r) as ++ τ))).Nodup := by
            rw [addrs_append, addrs_append, o2, ← addrs_ownE ar, ← addrs_append, ← addrs_append]
            exact nd0
          have pm : (pack σ (dropG A Γ) ++ (ownE' A (cs r) as ++ (v, ret r) :: τ)).Perm ((v, ret r) :: (pack σ (dropG A Γ) ++ (ownE' A (cs r) as ++ τ))) := by
            have p1 : (ownE' A (cs r) as ++ (v, ret r) :: τ).Perm ((v, ret r) :: (ownE' A (cs r) as ++ τ)) := List.perm_middle
            exact (p1.append_left _).trans List.perm_middle
          refine (addrs_perm pm).nodup_iff.mpr ?_
          cases ev : v with
          | ref b =>
            cases et : ret r with
            | own oa c =>
              show (b :: addrs (pack σ (dropG A Γ) ++ (ownE' A (cs r) as ++ τ))).Nodup
              refine List.nodup_cons.mpr ⟨fun hb => ?_, base_nd⟩
              have q := h2.top
              rw [ev, et] at q
              obtain ⟨b', o, e1, _, _, e4, _, _⟩ := q
              cases e1
              have e4' : (if b ∈ as then none else H b) = none := e4
              have nb : b ∉ as := fun hbas => by
                have n2 := h2.nd
                rw [addrs_append, ev, et] at n2
                exact (List.nodup_append.mp n2).2.2 b (o3 b hbas) b (by simp [addrs]) rfl
              rw [if_neg nb] at e4'
              obtain ⟨oa', c', hx⟩ := addrs_mem hb
              have inold : (V.ref b, Tm.own oa' c') ∈ pack σ (dropG A Γ) ++ τ := by
                rcases List.mem_append.mp hx with hx | hx
                · exact List.mem_append_left _ hx
                · rcases List.mem_append.mp hx with hx | hx
                  · exact absurd (by have := mem_addrs hx; rw [o2] at this; exact this) nb
                  · exact List.mem_append_right _ hx
              have q2 : One K g S H σ (V.ref b, Tm.own oa' c') := by
                rcases List.mem_append.mp inold with hx | hx
                · exact h0.all _ (List.mem_append_left _ hx)
                · exact h0.all _ (List.mem_append_right _ (List.mem_append_right _ hx))
              obtain ⟨b', o', e1, _, _, _, e5, _⟩ := q2
              cases e1
              rw [e4'] at e5; cases e5
            | dat p => exact base_nd
            | als j => exact base_nd
            | bad => exact base_nd
          | _ => cases ret r <;> exact base_nd
      have h3 := put_back (A := A) (cs := cs r) (Γ := Γ) (τ := (v, ret r) :: τ) ar (hcs r) ok fin
      refine k v H2 ⟨S2, h3.base, h3.len, h3.all, h3.ns, fun x hx j e => ?_, h3.nd⟩
      rcases List.mem_cons.mp hx with rfl | hx
      · exact absurd e (hret r j)
      · exact newG_own A (cs r) Γ j (hcs r) ok (hτ.al x hx j e)
    · intro hxf
      have fin : AtS K g S2 (dropG A Γ) σ [] H2 := by
        refine ⟨ground h2.base, h0.len, fun x hx => ?_, h0.ns, fun x hx => (by cases hx), ?_⟩
        · rw [List.append_nil] at hx
          exact stay h2.base (apart x (List.mem_append_left _ hx)) (h0.all x (List.mem_append_left _ hx))
        · rw [List.append_nil]
          rw [addrs_append] at nd0
          exact (List.nodup_append.mp nd0).1
      have fin2 : AtS K g S2 Γw σ [] H2 := by
        have sub : (pack σ Γw ++ []).Sublist (pack σ (dropG A Γ) ++ []) := (hw.sub σ).append_right []
        exact ⟨fin.base, Nat.le_trans hw.len fin.len, fun x hx => fin.all x (sub.subset hx), fun x hx => fin.ns x ((hw.sub σ).subset hx), fun x hx => (by cases hx), fin.nd.sublist (addrs_sub sub)⟩
      exact k σ H2 S2 dd fin2 hxf
end
end Gv

set_option Elab.async false
set_option linter.all false
set_option maxRecDepth 100000
set_option maxHeartbeats 1000000
/-! Gv: statements, loops, comprehensions, defs -/
namespace Gv
open PySem L2

structure Fx (ρ : Type) where
  EC : Str → Addr
  post : ρ → List (Option Tm)
  ret : ρ → Tm
  Gw : List (Option Tm)
  EW : St → XK
abbrev NxW (K : PySem.W.Frag) (g : Gh) {α : Type} (n : α → List (Option Tm)) (P : St → Hp → Prop) : α → Prop := fun a => ∀ σ' H', At K g (n a) σ' [] H' → P σ' H'
abbrev RtW (K : PySem.W.Frag) (g : Gh) {ρ : Type} (X : Fx ρ) (P : VK) : ρ → Prop := fun r => ∀ v H' σ', At K g (X.post r) σ' [(v, X.ret r)] H' → P v H'
abbrev ErW (K : PySem.W.Frag) (g : Gh) {ρ : Type} (X : Fx ρ) : Er → Prop := fun x => ErP K X.EC g X.Gw x X.EW
/-- a block does what the mirror tells -/
def BJ (K : PySem.W.Frag) {ρ lam α : Type} (X : Fx ρ) (Γ : List (Option Tm)) (ts : TS) (m : O ρ lam α) (n : α → List (Option Tm)) (b c : lam → List (Option Tm)) : Prop :=
  ∀ g σ H (D : Ends), At K g Γ σ [] H → Out m (NxW K g n D.nx) (RtW K g X D.rt) (NxW K g b D.bk) (NxW K g c D.ct) (ErW K g X) → ts D σ H

section
variable {K : PySem.W.Frag} {ρ lam α β γ : Type} {X : Fx ρ} {Γ Γ' : List (Option Tm)} {n : α → List (Option Tm)} {b c : lam → List (Option Tm)} {t u : TS} {ta tb te : TE} {tc : TT} {m m1 m2 : O ρ lam α} {i : Nat} {p : VP}

theorem bj_nx {a : α} (l : Le (n a) Γ) : BJ K X Γ tNext (.nx a : O ρ lam α) n b c := fun g σ H D hA hm => hm σ H (hA.weak l)
theorem bj_bk {a : lam} (l : Le (b a) Γ) : BJ K X Γ (tSeq tBreak u) (.bk a : O ρ lam α) n b c := fun g σ H D hA hm => hm σ H (hA.weak l)
theorem bj_ct {a : lam} (l : Le (c a) Γ) : BJ K X Γ (tSeq tCont u) (.ct a : O ρ lam α) n b c := fun g σ H D hA hm => hm σ H (hA.weak l)
theorem bj_pass (h : BJ K X Γ u m n b c) : BJ K X Γ (tSeq tNext u) m n b c := h
theorem bj_ret {r : ρ} (he : EV K Γ te (X.ret r)) (hr : ∀ j, X.ret r ≠ .als j) (l : Le (X.post r) Γ) : BJ K X Γ (tSeq (tRet te) u) (.rt r : O ρ lam α) n b c := fun g σ H D hA hm =>
  he g σ [] H D.rt hA fun v H' h' => hm v H' σ (h'.weak1 l hr)
theorem bj_retN {r : ρ} (hr : X.ret r = .dat eN) (l : Le (X.post r) Γ) : BJ K X Γ (tSeq tRetN u) (.rt r : O ρ lam α) n b c := fun g σ H D hA hm =>
  hm .non H σ (by
    have : At K g Γ σ [(.non, .dat eN)] H := hA.scal fun _ => rfl
    rw [hr]
    exact this.weak1 l fun j z => by cases z)
/-- return of an own list that stands in a slot -/
theorem bj_retO {r : ρ} {oa : Option Addr} {cl : Cell} (hg : Γ[i]? = some (some (.own oa cl))) (hr : X.ret r = .own none cl) (l : Le (X.post r) (Γ.set i none)) : BJ K X Γ (tSeq (tRet (tVar i)) u) (.rt r : O ρ lam α) n b c := fun g σ H D ⟨S, hA⟩ hm => by
  obtain ⟨a, e1, ow, h0⟩ := hA.at0.take hg
  refine ⟨.ref a, e1, hm (.ref a) H σ ?_⟩
  rw [hr]
  refine At.weak1 ⟨S, h0.base, h0.len, fun x hx => ?_, h0.ns, fun x hx k e => ?_, ?_⟩ l (fun j z => by cases z)
  · rcases List.mem_append.mp hx with hx | hx
    · exact h0.all x (List.mem_append_left _ hx)
    · have : x = (V.ref a, Tm.own none cl) := by simpa using hx
      subst this
      obtain ⟨a', o, e, _, k⟩ := ow
      exact ⟨a', o, e, fun b z => (nomatch z), k⟩
  · have : x = (V.ref a, Tm.own none cl) := by simpa using hx
    subst this
    cases e
  · have := h0.nd
    rw [addrs_append] at this ⊢
    exact this
/-- return of an own list, frozen -/
theorem bj_retF {r : ρ} {oa : Option Addr} {ps : List VP} (hg : Γ[i]? = some (some (.own oa (.lst ps)))) (hr : X.ret r = .dat (rL ps)) (l : Le (X.post r) (Γ.set i none)) : BJ K X Γ (tSeq (tRet (tVar i)) u) (.rt r : O ρ lam α) n b c := fun g σ H D hA hm => by
  refine bj_retO (K := K) (X := { X with ret := fun _ => .own none (.lst ps) }) (u := u) (n := n) (b := b) (c := c) (r := r) hg rfl l g σ H D hA (fun v H' σ' h' => ?_)
  have := h'.frz
  rw [← hr] at this
  exact hm v H' σ' this
theorem bj_seq {n1 : β → List (Option Tm)} {m1 : O ρ lam β} {f : β → O ρ lam α} (h1 : BJ K X Γ t m1 n1 b c) (h2 : ∀ a, BJ K X (n1 a) u (f a) n b c) : BJ K X Γ (tSeq t u) (m1.bind f) n b c := fun g σ H D hA hm =>
  h1 g σ H { D with nx := u D } hA (hm.bind.imp (fun a q σ' H' h' => h2 a g σ' H' D h' q) (fun _ q => q) (fun _ q => q) (fun _ q => q) fun _ q => q)
/-- a = e -/
theorem bj_asg {f : β → O ρ lam α} {e : β} (tm : β → Tm) (he : EV K Γ te (tm e)) (hn : ∀ t j, tm t ≠ .als j) (h : ∀ t, BJ K X (Γ.set i (some (tm t))) u (f t) n b c) (hi : Γ[i]?.isSome = true := by rfl) : BJ K X Γ (tSeq (tAsg te (gName i)) u) (lt e f) n b c := fun g σ H D hA hm =>
  he g σ [] H _ hA fun v H' ⟨S, h'⟩ => h e g _ H' D ⟨S, h'.set (by
    obtain ⟨x, hx⟩ := Option.isSome_iff_exists.mp hi
    exact (List.getElem?_eq_some_iff.mp hx).1) (hn e) (fun x hx => (by cases hx))⟩ hm
theorem At.set1 {g : Gh} {σ : St} {H : Hp} {v : V} {t : Tm} (h : At K g Γ σ [(v, t)] H) (hn : ∀ j, t ≠ .als j) (hi : Γ[i]?.isSome = true) : At K g (Γ.set i (some t)) (σ.set i (some v)) [] H := by
  obtain ⟨S, h⟩ := h
  obtain ⟨x, hx⟩ := Option.isSome_iff_exists.mp hi
  exact ⟨S, h.set (List.getElem?_eq_some_iff.mp hx).1 hn (fun x hx => (by cases hx))⟩
theorem bj_if {cc : Bool} (hc : EVB K Γ tc cc) (h1 : BJ K X Γ t m1 n b c) (h2 : BJ K X Γ u m2 n b c) : BJ K X Γ (tIfS tc t u) (if cc then m1 else m2) n b c := fun g σ H D hA hm =>
  hc g σ [] H _ hA fun H' h' => by
    cases cc with
    | true => exact h1 g σ H' D h' hm
    | false => exact h2 g σ H' D h' hm
/-- an if whose first branch leaves -/
theorem bj_ifL {w : TS} {cc : Bool} (hc : EVB K Γ tc cc) (h1 : BJ K X Γ (tSeq t w) m1 n b c) (h2 : BJ K X Γ (tSeq u w) m2 n b c) : BJ K X Γ (tSeq (tIfS tc t u) w) (if cc then m1 else m2) n b c := fun g σ H D hA hm =>
  hc g σ [] H _ hA fun H' h' => by
    cases cc with
    | true => exact h1 g σ H' D h' hm
    | false => exact h2 g σ H' D h' hm
theorem bj_weak (l : Le Γ' Γ) (h : BJ K X Γ' t m n b c) : BJ K X Γ t m n b c := fun g σ H D hA hm => h g σ H D (hA.weak l) hm
theorem bj_drop (he : EV K Γ te p') (h : BJ K X Γ u m n b c) : BJ K X Γ (tSeq (tDrop te) u) m n b c := fun g σ H D hA hm =>
  he g σ [] H _ hA fun v H' h' => h g σ H' D h'.pop hm
theorem bj_let {f : β → O ρ lam α} {e : β} (h : BJ K X Γ u (f e) n b c) : BJ K X Γ u (lt e f) n b c := h

/-! ### methods of own lists -/
def appR {α : Type} (xs : List α) (x : α) : R (List α) := gd (decide (xs.length < 1000000)) (xs ++ [x])
def popR {α : Type} (xs : List α) : R (α × List α) := match xs[xs.length - 1]? with
  | some y => .nx (y, xs.dropLast)
  | none => .stuck
def setR {α : Type} (xs : List α) (i : Int) (x : α) : R (List α) := match ixN xs.length i with
  | some j => .nx (xs.set j x)
  | none => .stuck
theorem AtS.tyL {g : Gh} {S H : Hp} {σ : St} {τ : List (V × Tm)} {v : V} {t : Tm} {ps : List VP} (h : AtS K g S Γ σ τ H) (hm : (v, t) ∈ τ) (hl : IsL Γ t ps) : tyV K "list" v H := by
  obtain ⟨a, vs, rfl, h2, _⟩ := h.isL hm hl
  exact .inl ⟨rfl, vs, h2⟩
/-- behind a write, the alias on the stack goes -/
theorem AtS.wr {g : Gh} {S H : Hp} {σ : St} {τ : List (V × Tm)} {oa : Option Addr} {c c' : Cell} {o' : HO} {v : V} (h : AtS K g S Γ σ τ H) (hm : (v, .als i) ∈ τ) (e : Γ[i]? = some (some (.own oa c))) (k : CellOk K S c' o') :
    ∃ a o, v = .ref a ∧ H a = some o ∧ CellOk K S c o ∧ AtS K g S (Γ.set i (some (.own oa c'))) σ τ (upd H a o') := by
  obtain ⟨a, o, e1, e2, e3, e4⟩ := h.write e k
  have q : σ[i]? = some (some v) := h.all _ (List.mem_append_right _ hm)
  rw [e1] at q
  exact ⟨a, o, by simpa using q.symm, e2, e3, e4⟩
/-- xs.append(x): the item on top, the alias below it -/
theorem f_app {g : Gh} {H : Hp} {σ : St} {τ : List (V × Tm)} {e : α → VP} {xs : List α} {a : α} {x y : V} {oa : Option Addr} {Q : VK} {E : Er → Prop} (hg : Γ[i]? = some (some (.own oa (.lst (xs.map e))))) (hA : At K g Γ σ ((y, .dat (e a)) :: (x, .als i) :: τ) H)
    (hm : OutR (appR xs a) (fun ys => ∀ H', At K g (Γ.set i (some (.own oa (.lst (ys.map e))))) σ τ H' → Q .non H') E) : rAppend x [y] H Q := by
  obtain ⟨S, h⟩ := hA
  obtain ⟨hc, k⟩ := hm.gd
  obtain ⟨a', vs, rfl, h2, h3⟩ := h.isO (List.mem_cons_of_mem _ List.mem_cons_self) (.als hg)
  have d : Hds K S ((xs ++ [a]).map e) (vs ++ [y]) := by
    rw [List.map_append]
    exact h3.append (.cons h.top .nil)
  obtain ⟨a2, o, e1, _, _, e4⟩ := h.wr (v := .ref a') (List.mem_cons_of_mem _ List.mem_cons_self) hg (c' := .lst ((xs ++ [a]).map e)) (o' := .lst (vs ++ [y])) ⟨_, rfl, d⟩
  cases e1
  refine ⟨a', vs, y, rfl, rfl, h2, ?_, k _ ⟨S, e4.pop.pop⟩⟩
  rw [h3.len, List.length_map]
  exact lt_line (of_decide_eq_true hc)
theorem bj_app {f : List β → O ρ lam α} {e : β → VP} {xs : List β} {a : β} {oa : Option Addr} (hg : Γ[i]? = some (some (.own oa (.lst (xs.map e))))) (he : EV K Γ te (.dat (e a)))
    (h : ∀ ys, BJ K X (Γ.set i (some (.own oa (.lst (ys.map e))))) u (f ys) n b c) : BJ K X Γ (tSeq (tDrop (tBM K "list" rAppend (tVar i) (tCons te tNil))) u) (bindR (appR xs a) f) n b c := fun g σ H D hA hm =>
  x_drop <| x_bm1 <| ev_own hg g σ [] H _ hA fun x H1 ⟨S, h1⟩ => ⟨h1.tyL List.mem_cons_self (.als hg), he g σ _ H1 _ ⟨S, h1⟩ fun y H2 h2 =>
    f_app hg h2 (hm.bindR.imp (fun ys q H3 h3 => h ys g σ H3 D h3 q) fun _ q => q)⟩
/-- xs.pop() -/
theorem f_pop {g : Gh} {H : Hp} {σ : St} {τ : List (V × Tm)} {e : α → VP} {xs : List α} {x : V} {oa : Option Addr} {Q : VK} {E : Er → Prop} (hg : Γ[i]? = some (some (.own oa (.lst (xs.map e))))) (hA : At K g Γ σ ((x, .als i) :: τ) H)
    (hm : OutR (popR xs) (fun r => ∀ v H', At K g (Γ.set i (some (.own oa (.lst (r.2.map e))))) σ ((v, .dat (e r.1)) :: τ) H' → Q v H') E) : rPop x [] H Q := by
  obtain ⟨S, h⟩ := hA
  unfold popR at hm
  cases e0 : xs[xs.length - 1]? with
  | none => rw [e0] at hm; exact hm.elim
  | some y =>
    rw [e0] at hm
    obtain ⟨a', vs, rfl, h2, h3⟩ := h.isO List.mem_cons_self (.als hg)
    have e1 : (xs.map e)[xs.length - 1]? = some (e y) := by rw [List.getElem?_map, e0]; rfl
    obtain ⟨w, w1, w2⟩ := h3.get e1
    have d : Hds K S (xs.dropLast.map e) vs.dropLast := by
      rw [List.map_dropLast]
      exact h3.dropLast
    obtain ⟨a2, o, e2, _, _, e4⟩ := h.wr (v := .ref a') List.mem_cons_self hg (c' := .lst (xs.dropLast.map e)) (o' := .lst vs.dropLast) ⟨_, rfl, d⟩
    cases e2
    refine ⟨a', vs, w, rfl, rfl, h2, ?_, hm w _ ⟨S, e4.pop.push w2⟩⟩
    rw [h3.len, List.length_map]
    exact w1
theorem x_pop {σ : St} {H : Hp} {Q : VK} {g : Gh} {τ : List (V × Tm)} {e : α → VP} {xs : List α} {oa : Option Addr} {E : Er → Prop} (hg : Γ[i]? = some (some (.own oa (.lst (xs.map e))))) (hA : At K g Γ σ τ H)
    (hm : OutR (popR xs) (fun r => ∀ v H', At K g (Γ.set i (some (.own oa (.lst (r.2.map e))))) σ ((v, .dat (e r.1)) :: τ) H' → Q v H') E) : tBM0 K "list" rPop (tVar i) σ H Q :=
  ev_own hg g σ τ H _ hA fun x H1 ⟨S, h1⟩ => ⟨h1.tyL List.mem_cons_self (.als hg), f_pop hg ⟨S, h1⟩ hm⟩
/-- xs.reverse() -/
theorem bj_rev {f : List β → O ρ lam α} {e : β → VP} {xs : List β} {oa : Option Addr} (hg : Γ[i]? = some (some (.own oa (.lst (xs.map e)))))
    (h : ∀ ys, BJ K X (Γ.set i (some (.own oa (.lst (ys.map e))))) u (f ys) n b c) : BJ K X Γ (tSeq (tDrop (tBM0 K "list" rReverse (tVar i))) u) (lt xs.reverse f) n b c := fun g σ H D hA hm =>
  x_drop <| x_bm0 <| ev_own hg g σ [] H _ hA fun x H1 ⟨S, h1⟩ => ⟨h1.tyL List.mem_cons_self (.als hg), by
    obtain ⟨a', vs, rfl, h2, h3⟩ := h1.isO List.mem_cons_self (.als hg)
    have d : Hds K S (xs.reverse.map e) vs.reverse := by
      rw [List.map_reverse]
      exact h3.rev
    obtain ⟨a2, o, e2, _, _, e4⟩ := h1.wr (v := .ref a') List.mem_cons_self hg (c' := .lst (xs.reverse.map e)) (o' := .lst vs.reverse) ⟨_, rfl, d⟩
    cases e2
    exact ⟨a', vs, rfl, rfl, h2, h _ g σ _ D ⟨S, e4.pop⟩ hm⟩⟩
/-- xs[j] = x: the value below the alias, the place on top -/
theorem f_set {g : Gh} {H : Hp} {σ : St} {τ : List (V × Tm)} {e : α → VP} {xs : List α} {j : Int} {a : α} {x y z : V} {oa : Option Addr} {Q : Hp → Prop} {E : Er → Prop} (hg : Γ[i]? = some (some (.own oa (.lst (xs.map e))))) (hA : At K g Γ σ ((y, .dat (eI j)) :: (x, .als i) :: (z, .dat (e a)) :: τ) H)
    (hm : OutR (setR xs j a) (fun ys => ∀ H', At K g (Γ.set i (some (.own oa (.lst (ys.map e))))) σ τ H' → Q H') E) : rSetL x y z H Q := by
  obtain ⟨S, h⟩ := hA
  unfold setR at hm
  cases e0 : ixN xs.length j with
  | none => rw [e0] at hm; exact hm.elim
  | some k =>
    rw [e0] at hm
    obtain ⟨a', vs, rfl, h2, h3⟩ := h.isO (List.mem_cons_of_mem _ List.mem_cons_self) (.als hg)
    have d : Hds K S ((xs.set k a).map e) (vs.set k z) := by
      rw [List.map_set]
      exact h3.set h.pop.pop.top k
    obtain ⟨a2, o, e2, _, _, e4⟩ := h.wr (v := .ref a') (List.mem_cons_of_mem _ List.mem_cons_self) hg (c' := .lst ((xs.set k a).map e)) (o' := .lst (vs.set k z)) ⟨_, rfl, d⟩
    cases e2
    refine ⟨a', vs, j, k, rfl, h.top.i, h2, ?_, hm _ ⟨S, e4.pop.pop.pop⟩⟩
    rw [h3.len, List.length_map]
    exact e0
/-- xs[j] = e with plain parts -/
theorem bj_set {f : List β → O ρ lam α} {e : β → VP} {xs : List β} {a : β} {j : Int} {oa : Option Addr} (hg : Γ[i]? = some (some (.own oa (.lst (xs.map e))))) (he : EV K Γ te (.dat (e a))) (hj : EV K Γ tb (.dat (eI j)))
    (h : ∀ ys, BJ K X (Γ.set i (some (.own oa (.lst (ys.map e))))) u (f ys) n b c) : BJ K X Γ (tSeq (tAsg te (gSub (tVar i) tb rSetL)) u) (bindR (setR xs j a) f) n b c := fun g σ H D hA hm =>
  he g σ [] H _ hA fun z H1 h1 => ev_own hg g σ _ H1 _ h1 fun x H2 h2 => hj g σ _ H2 _ h2 fun y H3 h3 =>
    f_set hg h3 (hm.bindR.imp (fun ys q H4 h4 => h ys g σ H4 D h4 q) fun _ q => q)

end

/-! ### targets -/
def setS : St → List Nat → List V → St
  | σ, [], _ => σ
  | σ, _ :: _, [] => σ
  | σ, j :: js, v :: vs => setS (σ.set j (some v)) js vs
def setG : List (Option Tm) → List Nat → List VP → List (Option Tm)
  | G, [], _ => G
  | G, _ :: _, [] => G
  | G, j :: js, p :: ps => setG (G.set j (some (.dat p))) js ps
theorem setS_app : ∀ {js ks : List Nat} {vs ws : List V} {σ : St}, vs.length = js.length → setS σ (js ++ ks) (vs ++ ws) = setS (setS σ js vs) ks ws
  | [], _, [], _, _, _ => rfl
  | [], _, _ :: _, _, _, h => by simp at h
  | _ :: _, _, [], _, _, h => by simp at h
  | j :: js, ks, v :: vs, ws, σ, h => setS_app (js := js) (vs := vs) (σ := σ.set j (some v)) (by simpa using h)
theorem setG_app : ∀ {js ks : List Nat} {ps qs : List VP} {G : List (Option Tm)}, ps.length = js.length → setG G (js ++ ks) (ps ++ qs) = setG (setG G js ps) ks qs
  | [], _, [], _, _, _ => rfl
  | [], _, _ :: _, _, _, h => by simp at h
  | _ :: _, _, [], _, _, h => by simp at h
  | j :: js, ks, v :: vs, ws, G, h => setG_app (js := js) (ps := vs) (G := G.set j (some (.dat v))) (by simpa using h)
theorem setG_len : ∀ {js : List Nat} {ps : List VP} {G : List (Option Tm)}, (setG G js ps).length = G.length
  | [], _, _ => rfl
  | _ :: _, [], _ => rfl
  | j :: js, p :: ps, G => by
    show (setG (G.set j (some (.dat p))) js ps).length = _
    rw [setG_len, List.length_set]
/-- a target takes the value on top: the slots js take what the ps tell -/
def TJ (K : PySem.W.Frag) (tg : TG) (p : VP) (js : List Nat) (ps : List VP) : Prop := ps.length = js.length ∧ ∀ g Γ σ τ H x (Q : St → Hp → Prop), (∀ j ∈ js, j < Γ.length) → (∀ y ∈ τ, ∀ k, y.2 = Tm.als k → k ∉ js) → At K g Γ σ ((x, .dat p) :: τ) H →
  (∀ vs H', vs.length = js.length → At K g (setG Γ js ps) (setS σ js vs) τ H' → Q (setS σ js vs) H') → tg x σ H Q
def TJs (K : PySem.W.Frag) (tg : TGs) (qs : List VP) (js : List Nat) (ps : List VP) : Prop := ps.length = js.length ∧ ∀ g Γ σ τ H xs (Q : St → Hp → Prop), (∀ j ∈ js, j < Γ.length) → (∀ y ∈ τ, ∀ k, y.2 = Tm.als k → k ∉ js) → xs.length = qs.length → At K g Γ σ (xs.zip (qs.map Tm.dat) ++ τ) H →
  (∀ vs H', vs.length = js.length → At K g (setG Γ js ps) (setS σ js vs) τ H' → Q (setS σ js vs) H') → tg xs σ H Q
section
variable {K : PySem.W.Frag} {tg : TG} {tgs : TGs} {p : VP} {ps qs rs : List VP} {js ks : List Nat} {i : Nat}
theorem tj_name : TJ K (gName i) p [i] [p] := ⟨rfl, fun g Γ σ τ H x Q hi hτ ⟨S, hA⟩ k =>
  k [x] H rfl ⟨S, hA.set (hi i List.mem_cons_self) (fun j z => by cases z) fun y hy k e => (fun z => hτ y hy k e (by rw [z]; exact List.mem_cons_self))⟩⟩
theorem tjs_nil : TJs K gNil [] [] [] := ⟨rfl, fun g Γ σ τ H xs Q hi hτ hl hA k => by
  cases xs with
  | nil => exact ⟨rfl, k [] H rfl hA⟩
  | cons _ _ => simp at hl⟩
theorem tjs_cons (h1 : TJ K tg p js ps) (h2 : TJs K tgs qs ks rs) : TJs K (gCons tg tgs) (p :: qs) (js ++ ks) (ps ++ rs) := ⟨by rw [List.length_append, List.length_append, h1.1, h2.1], fun g Γ σ τ H xs Q hi hτ hl hA k => by
  cases xs with
  | nil => simp at hl
  | cons x xs =>
    refine ⟨x, xs, rfl, h1.2 g Γ σ (xs.zip (qs.map Tm.dat) ++ τ) H x _ (fun j hj => hi j (List.mem_append_left _ hj)) (fun y hy k e => ?_) hA fun vs H1 e1 hA1 => ?_⟩
    · rcases List.mem_append.mp hy with hy | hy
      · obtain ⟨q, _, e2⟩ := List.mem_map.mp (List.of_mem_zip (show (y.1, y.2) ∈ _ from hy)).2
        rw [e] at e2; cases e2
      · exact fun z => hτ y hy k e (List.mem_append_left _ z)
    · refine h2.2 g _ _ τ H1 xs _ (fun j hj => by rw [setG_len]; exact hi j (List.mem_append_right _ hj)) (fun y hy k e z => hτ y hy k e (List.mem_append_right _ z)) (by simpa using hl) hA1 fun ws H2 e2 hA2 => ?_
      have q := k (vs ++ ws) H2 (by rw [List.length_append, List.length_append, e1, e2])
      rw [setS_app e1, setG_app h1.1] at q
      exact q hA2⟩
theorem AtS.pushes {g : Gh} {S H : Hp} {Γ : List (Option Tm)} {σ : St} {τ : List (V × Tm)} : ∀ {qs : List VP} {xs : List V}, Hds K S qs xs → AtS K g S Γ σ τ H → AtS K g S Γ σ (xs.zip (qs.map Tm.dat) ++ τ) H
  | _, _, .nil, h => h
  | _, _, .cons r t, h => (AtS.pushes t h).push r
theorem tj_tup {n : Nat} (h : TJs K tgs qs js ps) (hn : qs.length = n) : TJ K (gTup K n tgs) (rT qs) js ps := ⟨h.1, fun g Γ σ τ H x Q hi hτ ⟨S, hA⟩ k => by
  obtain ⟨a, vs, rfl, h2, h3⟩ := hA.isT List.mem_cons_self
  exact ⟨a, vs, rfl, h2, by rw [h3.len, hn], h.2 g Γ σ τ H vs Q hi hτ h3.len ⟨S, hA.pop.pushes h3⟩ k⟩⟩
end
end Gv

set_option Elab.async false
set_option linter.all false
set_option maxRecDepth 100000
set_option maxHeartbeats 1000000
/-! Gv: loops, comprehensions, defs -/
namespace Gv
open PySem L2

/-! ### what a loop walks -/
/-- wi walks the items that m tells -/
def ITM (K : PySem.W.Frag) (Γ : List (Option Tm)) (wi : TI) {β : Type} (m : R (List β)) (e : β → VP) : Prop :=
  ∀ (g : Gh) (σ : St) (τ : List (V × Tm)) (H : Hp) (Rk : It → Hp → Prop) (E : Er → Prop), At K g Γ σ τ H →
    OutR m (fun xs => ∀ (J : It) (Gd : Hp → Prop) (Y : Nat → Hp → V → Hp → Prop) (S1 H' : Hp), Walk J xs.length Gd Y → Same g.S0 S1 → (∀ b, g.F b ≠ none → g.S0 b = none → S1 b = none) → At K ⟨S1, g.F⟩ Γ σ τ H' →
      (∀ S2 H2, Base ⟨S1, g.F⟩ S2 H2 → Gd H2) →
      (∀ (i : Nat) (b : β) (x : V) (H1 H2 : Hp) (Γ' : List (Option Tm)) (σ' : St) (τ' : List (V × Tm)), xs[i]? = some b → Y i H1 x H2 → At K ⟨S1, g.F⟩ Γ' σ' τ' H1 → At K ⟨S1, g.F⟩ Γ' σ' ((x, .dat (e b)) :: τ') H2) → Rk J H') E → wi σ H Rk
section
variable {K : PySem.W.Frag} {Γ : List (Option Tm)} {wi : TI} {te ta tb : TE} {β : Type} {e : β → VP}
theorem Base.reS {g : Gh} {S S2 H2 : Hp} (B : Base ⟨S, g.F⟩ S2 H2) : Same S H2 := fun b o h => B.sh b o (B.s0 b o h)
theorem it_list (xs : List β) (e : β → VP) (he : EV K Γ te (.dat (eL e xs))) : ITM K Γ (iList K te) (.nx xs) e := fun g σ τ H Rk E hA hm =>
  he g σ τ H _ hA fun v H' ⟨S, h⟩ => by
    obtain ⟨a, vs, rfl, h2, h3⟩ := Hd.l h.top
    have hl : vs.length = xs.length := by rw [h3.len, List.length_map]
    refine ⟨a, rfl, ⟨vs, h.base.sh.seq h2⟩, hm (Itl K a) (fun H => SqL K H a vs) (YAt vs) S H' (by rw [← hl]; exact walk_list) h.base.s0 h.base.fs ⟨S, h.pop.reS⟩ (fun S2 H2 B => B.reS.seq h2) fun i b x H1 H2 Γ' σ' τ' hb hy ⟨S2, hA2⟩ => ?_⟩
    obtain ⟨rfl, hx⟩ := hy
    obtain ⟨w, w1, w2⟩ := h3.get (show (xs.map e)[i]? = some (e b) by rw [List.getElem?_map, hb]; rfl)
    rw [hx] at w1
    cases w1
    exact ⟨S2, hA2.push (w2.mono hA2.base.s0)⟩
theorem it_tup (xs : List β) (e : β → VP) (he : EV K Γ te (.dat (eT e xs))) : ITM K Γ (iTup K te) (.nx xs) e := fun g σ τ H Rk E hA hm =>
  he g σ τ H _ hA fun v H' ⟨S, h⟩ => by
    obtain ⟨a, vs, rfl, h2, h3⟩ := Hd.t h.top
    have hl : vs.length = xs.length := by rw [h3.len, List.length_map]
    refine ⟨a, rfl, ⟨vs, same_t h.base.sh h2⟩, hm (Itt K a) (fun H => SqT K H a vs) (YAt vs) S H' (by rw [← hl]; exact walk_tup) h.base.s0 h.base.fs ⟨S, h.pop.reS⟩ (fun S2 H2 B => same_t B.reS h2) fun i b x H1 H2 Γ' σ' τ' hb hy ⟨S2, hA2⟩ => ?_⟩
    obtain ⟨rfl, hx⟩ := hy
    obtain ⟨w, w1, w2⟩ := h3.get (show (xs.map e)[i]? = some (e b) by rw [List.getElem?_map, hb]; rfl)
    rw [hx] at w1
    cases w1
    exact ⟨S2, hA2.push (w2.mono hA2.base.s0)⟩
/-- an own list: it stands still while it is walked -/
theorem At.frzS {g : Gh} {σ : St} {H : Hp} {i : Nat} {oa : Option Addr} {ps : List VP} (h : At K g Γ σ [] H) (hg : Γ[i]? = some (some (.own oa (.lst ps)))) : At K g (Γ.set i (some (.dat (rL ps)))) σ [] H := by
  obtain ⟨S, h⟩ := h
  obtain ⟨a, e1, ow, h0⟩ := h.at0.take hg
  have h1 : At K g (Γ.set i none) σ [(.ref a, .own oa (.lst ps))] H := by
    refine ⟨S, h0.base, h0.len, h0.all, h0.ns, fun x hx k e => ?_, h0.nd⟩
    have : x = (V.ref a, Tm.own oa (.lst ps)) := by simpa using hx
    subst this
    cases e
  obtain ⟨S2, h2⟩ := h1.frz
  have hi : i < Γ.length := (List.getElem?_eq_some_iff.mp hg).1
  have h3 := h2.at0.put (i := i) (by rw [List.length_set]; exact hi) e1 (fun j z => by cases z) (List.getElem?_set_self hi)
  rw [List.set_set] at h3
  exact ⟨S2, h3.base, h3.len, h3.all, h3.ns, (fun x hx => nomatch hx), h3.nd⟩
theorem bj_frz {ρ lam α : Type} {X : Fx ρ} {u : TS} {m : O ρ lam α} {n : α → List (Option Tm)} {b c : lam → List (Option Tm)} {i : Nat} {oa : Option Addr} {ps : List VP} (hg : Γ[i]? = some (some (.own oa (.lst ps)))) (h : BJ K X (Γ.set i (some (.dat (rL ps)))) u m n b c) : BJ K X Γ u m n b c :=
  fun g σ H D hA hm => h g σ H D (hA.frzS hg) hm
/-- the place of an own list gets a name -/
theorem bj_pin {ρ lam α : Type} {X : Fx ρ} {u : TS} {m : O ρ lam α} {n : α → List (Option Tm)} {b c : lam → List (Option Tm)} {i : Nat} {oa : Option Addr} {cl : Cell} (hg : Γ[i]? = some (some (.own oa cl))) (h : ∀ a, BJ K X (Γ.set i (some (.own (some a) cl))) u m n b c) : BJ K X Γ u m n b c :=
  fun g σ H D ⟨S, hA⟩ hm => by
    obtain ⟨a, e1, ow, h0⟩ := hA.at0.take hg
    have hi : i < Γ.length := (List.getElem?_eq_some_iff.mp hg).1
    have h1 : At0 K g S (Γ.set i none) σ [(.ref a, .own (some a) cl)] H := ⟨h0.base, h0.len, fun x hx => by
      rcases List.mem_append.mp hx with hx | hx
      · exact h0.all x (List.mem_append_left _ hx)
      · have : x = (V.ref a, Tm.own (some a) cl) := by simpa using hx
        subst this
        obtain ⟨a', o, e, _, k⟩ := ow
        cases e
        exact ⟨a, o, rfl, fun b z => (Option.some.inj z).symm, k⟩, h0.ns, by
      have := h0.nd
      rw [addrs_append] at this ⊢
      exact this⟩
    have h3 := h1.put (i := i) (by rw [List.length_set]; exact hi) e1 (fun j z => by cases z) (List.getElem?_set_self hi)
    rw [List.set_set] at h3
    exact h a g σ H D ⟨S, h3.base, h3.len, h3.all, h3.ns, fun x hx => (by cases hx), h3.nd⟩ hm
/-- range(a, b) as a list -/
def rangeL (a b : Int) : List Int := (List.range (b - a).toNat).map fun i => a + (i : Nat)
theorem rangeL_len (a b : Int) : (rangeL a b).length = (b - a).toNat := by unfold rangeL; rw [List.length_map, List.length_range]
theorem rangeL_get {a b : Int} {i : Nat} {x : Int} (h : (rangeL a b)[i]? = some x) : x = a + (i : Nat) := by
  unfold rangeL at h
  rw [List.getElem?_map] at h
  cases e : (List.range (b - a).toNat)[i]? with
  | none => rw [e] at h; cases h
  | some j =>
    rw [e] at h
    obtain ⟨hj, ej⟩ := List.getElem?_eq_some_iff.mp e
    rw [List.getElem_range] at ej
    subst ej
    exact (Option.some.inj h).symm
@[irreducible] def rngR (a b : Int) : R (List Int) := gd (decide (-1000000000 ≤ a) && decide (a ≤ 1000000000) && decide (-1000000000 ≤ b) && decide (b ≤ 1000000000)) (rangeL a b)
theorem rngR_eq (a b : Int) : rngR a b = gd (decide (-1000000000 ≤ a) && decide (a ≤ 1000000000) && decide (-1000000000 ≤ b) && decide (b ≤ 1000000000)) (rangeL a b) := by unfold rngR; rfl
theorem rngR_gd {a b : Int} {N : List Int → Prop} {E : Er → Prop} (h : OutR (rngR a b) N E) : (decide (-1000000000 ≤ a) && decide (a ≤ 1000000000) && decide (-1000000000 ≤ b) && decide (b ≤ 1000000000)) = true ∧ N (rangeL a b) := by
  rw [rngR_eq] at h
  exact h.gd
theorem it_rng1 {b : Int} (he : EV K Γ tb (.dat (eI b))) : ITM K Γ (iRng1 (tCons tb tNil)) (rngR 0 b) eI := fun g σ τ H Rk E hA hm =>
  he g σ τ H _ hA fun v H' ⟨S, h⟩ => by
    obtain ⟨hc, k⟩ := rngR_gd hm
    simp only [Bool.and_eq_true, decide_eq_true_eq] at hc
    refine ⟨b, by rw [show v = V.int b from Hd.i h.top], by omega, by omega, k (Itr 0 b.toNat) (fun _ => True) (YFn fun i => .int (0 + i)) S H' (by rw [rangeL_len, Int.sub_zero]; exact walk_range) h.base.s0 h.base.fs ⟨S, h.pop.reS⟩ (fun _ _ _ => True.intro) fun i x v H1 H2 Γ' σ' τ' hx hy hA2 => ?_⟩
    obtain ⟨rfl, rfl⟩ := hy
    exact hA2.scal fun _ => by rw [rangeL_get hx]; rfl
theorem it_rng2 {a b : Int} (h1 : EV K Γ ta (.dat (eI a))) (h2 : EV K Γ tb (.dat (eI b))) : ITM K Γ (iRng2 (tCons ta (tCons tb tNil))) (rngR a b) eI := fun g σ τ H Rk E hA hm =>
  h1 g σ τ H _ hA fun v H1 hA1 => h2 g σ _ H1 _ hA1 fun w H' ⟨S, h⟩ => by
    obtain ⟨hc, k⟩ := rngR_gd hm
    simp only [Bool.and_eq_true, decide_eq_true_eq] at hc
    refine ⟨a, b, by rw [show w = V.int b from Hd.i h.top, show v = V.int a from Hd.i h.pop.top], by omega, k (Itr a (b - a).toNat) (fun _ => True) (YFn fun i => .int (a + i)) S H' (by rw [rangeL_len]; exact walk_range) h.base.s0 h.base.fs ⟨S, h.pop.pop.reS⟩ (fun _ _ _ => True.intro) fun i x v H1 H2 Γ' σ' τ' hx hy hA2 => ?_⟩
    obtain ⟨rfl, rfl⟩ := hy
    exact hA2.scal fun _ => by rw [rangeL_get hx]; rfl
end

/-! ### for -/
section
variable {K : PySem.W.Frag} {ρ lam α β sT : Type} {X : Fx ρ} {Γ : List (Option Tm)} {n : α → List (Option Tm)} {b c : lam → List (Option Tm)} {t u tb : TS} {te : TE} {tc : TT} {wi : TI} {tg : TG} {e : β → VP} {js : List Nat} {ps : β → List VP}
theorem forO_out {f : sT → β → O ρ sT sT} {x : β} {xs : List β} {s0 : sT} {N : sT → Prop} {T : ρ → Prop} {B C : lam → Prop} {E : Er → Prop} (h : Out (forO f (x :: xs) s0 : O ρ lam sT) N T B C E) :
    Out (f s0 x) (fun s' => Out (forO f xs s' : O ρ lam sT) N T B C E) T (fun s' => N s') (fun s' => Out (forO f xs s' : O ρ lam sT) N T B C E) E := by
  unfold forO at h
  cases e : f s0 x <;> rw [e] at h <;> exact h
theorem ErP.unS {EC : Str → Addr} {g : Gh} {S1 : Hp} {Gw : List (Option Tm)} {x : Er} {EW : St → XK} (h : ErP K EC g Gw x EW) (e : Same g.S0 S1) (f : ∀ b, g.F b ≠ none → g.S0 b = none → S1 b = none) : ErP K EC ⟨S1, g.F⟩ Gw x EW :=
  fun σ' H' S' d hA => h σ' H' S' d (hA.unS e f)
theorem At.unS {g : Gh} {S1 H : Hp} {σ : St} {τ : List (V × Tm)} (h : At K ⟨S1, g.F⟩ Γ σ τ H) (e : Same g.S0 S1) (f : ∀ b, g.F b ≠ none → g.S0 b = none → S1 b = none) : At K g Γ σ τ H := by
  obtain ⟨S, h⟩ := h
  exact ⟨S, h.unS e f⟩
theorem bj_for {m : R (List β)} {f : sT → β → O ρ sT sT} {s0 : sT} {k : sT → O ρ lam α} (Gl : sT → List (Option Tm)) (hi : ITM K Γ wi m e) (ht : ∀ b, TJ K tg (e b) js (ps b)) (hj : ∀ s, ∀ j ∈ js, j < (Gl s).length) (h0 : Le (Gl s0) Γ)
    (hb : ∀ s b, BJ K X (setG (Gl s) js (ps b)) tb (f s b) Gl Gl Gl) (hr : ∀ s, BJ K X (Gl s) u (k s) n b c) : BJ K X Γ (tSeq (tFor wi tg tb) u) (bindR m fun xs => (forO f xs s0).bind k) n b c := fun g σ H D hA hm => by
  show wi σ H _
  refine hi g σ [] H _ (ErW K g X) hA (hm.bindR.imp (fun xs q J Gd Y S1 H' w es ef hA' hG hY => ?_) fun _ q => q)
  have q2 := q.bind
  refine for_it w (fun i σ H => ∃ s, At K ⟨S1, g.F⟩ (Gl s) σ [] H ∧ Out (forO f (xs.drop i) s : O ρ lam sT) (fun s' => ∀ σ' H', At K ⟨S1, g.F⟩ (Gl s') σ' [] H' → u D σ' H') (RtW K ⟨S1, g.F⟩ X D.rt) (fun l => NxW K g b D.bk l) (fun l => NxW K g c D.ct l) (ErW K ⟨S1, g.F⟩ X))
    ⟨s0, hA'.weak h0, ?_⟩ (fun i σ H _ ⟨s, ⟨S2, h2⟩, _⟩ => hG S2 H h2.base) ?_ ?_
  · rw [List.drop_zero]
    refine q2.imp (fun s' q3 σ' H' h' => hr s' g σ' H' D (h'.unS es ef) q3) (fun r q3 v H' σ' h' => q3 v H' σ' (h'.unS es ef)) (fun _ q3 => q3) (fun _ q3 => q3) (fun x q3 => q3.unS es ef)
  · rintro i x σ H H' hi ⟨s, hA2, q3⟩ hy
    have hx : xs[i]? = some xs[i] := List.getElem?_eq_getElem hi
    rw [List.drop_eq_getElem_cons hi] at q3
    have q4 := forO_out q3
    refine (ht xs[i]).2 ⟨S1, g.F⟩ (Gl s) σ [] H' x _ (hj s) (fun y hy => (by cases hy)) (hY i _ x H H' _ _ _ hx hy hA2) fun vs H2 _ hA3 => ?_
    exact hb s xs[i] ⟨S1, g.F⟩ _ H2 _ hA3 (q4.imp (fun s' q5 σ' H' h' => ⟨s', h', q5⟩) (fun _ q5 => q5) (fun s' q5 σ' H' h' => q5 σ' H' h') (fun s' q5 σ' H' h' => ⟨s', h', q5⟩) fun _ q5 => q5)
  · rintro σ H ⟨s, hA2, q3⟩
    rw [List.drop_length] at q3
    exact q3 σ H hA2
/-! ### while -/
theorem whileO_out {cn : sT → R (sT × Bool)} {f : sT → O ρ sT sT} {fu : Nat} {s0 : sT} {N : sT → Prop} {T : ρ → Prop} {B C : lam → Prop} {E : Er → Prop} (h : Out (whileO cn f (fu + 1) s0 : O ρ lam sT) N T B C E) :
    OutR (cn s0) (fun sb => (sb.2 = true → Out (f sb.1) (fun s' => Out (whileO cn f fu s' : O ρ lam sT) N T B C E) T (fun s' => N s') (fun s' => Out (whileO cn f fu s' : O ρ lam sT) N T B C E) E) ∧ (sb.2 = false → N sb.1)) E := by
  unfold whileO at h
  refine h.bindR.imp (fun sb q => ⟨fun hb => ?_, fun hb => ?_⟩) fun _ q => q
  · rw [if_pos hb] at q
    cases e : f sb.1 <;> rw [e] at q <;> exact q
  · rw [if_neg (by rw [hb]; exact Bool.false_ne_true)] at q
    exact q
theorem bj_while {cn : sT → R (sT × Bool)} {f : sT → O ρ sT sT} {fu : Nat} {s0 : sT} {k : sT → O ρ lam α} (Gl : sT → List (Option Tm)) (h0 : Le (Gl s0) Γ)
    (hc : ∀ s g σ H (Q : Bool → Hp → Prop), At K g (Gl s) σ [] H → OutR (cn s) (fun sb => ∀ H', At K g (Gl sb.1) σ [] H' → Q sb.2 H') (ErW K g X) → tc σ H Q)
    (hb : ∀ s, BJ K X (Gl s) tb (f s) Gl Gl Gl) (hr : ∀ s, BJ K X (Gl s) u (k s) n b c) : BJ K X Γ (tSeq (tWhile tc tb) u) ((whileO cn f fu s0).bind k) n b c := fun g σ H D hA hm => by
  have q2 := hm.bind
  show ∃ W : Nat → St → Hp → Prop, _
  refine ⟨fun m σ H => ∃ s, At K g (Gl s) σ [] H ∧ Out (whileO cn f m s : O ρ lam sT) (fun s' => ∀ σ' H', At K g (Gl s') σ' [] H' → u D σ' H') (RtW K g X D.rt) (fun l => NxW K g b D.bk l) (fun l => NxW K g c D.ct l) (ErW K g X),
    ⟨fu, s0, hA.weak h0, q2.imp (fun s' q3 σ' H' h' => hr s' g σ' H' D h' q3) (fun _ q => q) (fun _ q => q) (fun _ q => q) fun _ q => q⟩, ?_⟩
  rintro m σ H ⟨s, hA2, q3⟩
  cases m with
  | zero => exact q3.elim
  | succ m =>
    refine hc s g σ H _ hA2 ((whileO_out q3).imp (fun sb q4 H' h' => ?_) fun _ q => q)
    cases e : sb.2 with
    | true =>
      rw [if_pos rfl]
      refine ⟨fun σ' H' => ∃ s', At K g (Gl s') σ' [] H' ∧ Out (whileO cn f m s' : O ρ lam sT) (fun s' => ∀ σ' H', At K g (Gl s') σ' [] H' → u D σ' H') (RtW K g X D.rt) (fun l => NxW K g b D.bk l) (fun l => NxW K g c D.ct l) (ErW K g X), fun σ' H' z => ⟨m, Nat.lt_succ_self m, z⟩, ?_⟩
      exact hb sb.1 g σ H' _ h' ((q4.1 e).imp (fun s' q5 σ' H' h' => ⟨s', h', q5⟩) (fun _ q5 => q5) (fun s' q5 σ' H' h' => q5 σ' H' h') (fun s' q5 σ' H' h' => ⟨s', h', q5⟩) fun _ q5 => q5)
    | false =>
      rw [if_neg Bool.false_ne_true]
      exact q4.2 e σ H' h'
/-- a test that is plain -/
theorem cj_pure {Gl : sT → List (Option Tm)} {cc : sT → Bool} (h : ∀ s, EVB K (Gl s) tc (cc s)) : ∀ s g σ H (Q : Bool → Hp → Prop), At K g (Gl s) σ [] H → OutR (.nx (s, cc s) : R (sT × Bool)) (fun sb => ∀ H', At K g (Gl sb.1) σ [] H' → Q sb.2 H') (ErW K g X) → tc σ H Q :=
  fun s g σ H Q hA hm => h s g σ [] H Q hA fun H' h' => hm H' h'
end

/-! ### comprehensions -/
section
variable {K : PySem.W.Frag} {β γ sT : Type} {wi : TI} {tg : TG} {tt : TT} {te : TE} {e : β → VP} {js vs : List Nat} {ps : β → List VP} {enc : γ → VP}
/-- what an item gives -/
def LJ (K : PySem.W.Frag) (Gl : sT → List (Option Tm)) (js : List Nat) (ps : β → List VP) (enc : γ → VP) (tt : TT) (te : TE) (f : sT → β → R (sT × Option γ)) : Prop :=
  ∀ s b g σ τ H (Q : Option V → Hp → Prop), At K g (setG (Gl s) js (ps b)) σ τ H →
    OutR (f s b) (fun r => match r.2 with
      | none => ∀ H', At K g (setG (Gl r.1) js (ps b)) σ τ H' → Q none H'
      | some y => ∀ v H', At K g (setG (Gl r.1) js (ps b)) σ ((v, .dat (enc y)) :: τ) H' → Q (some v) H') (fun _ => False) →
    tt σ H fun b H3 => if b = true then te σ H3 fun y H4 => Q (some y) H4 else Q none H3
theorem lj_pure {Gl : sT → List (Option Tm)} {h : sT → β → γ} (he : ∀ s b, EV K (setG (Gl s) js (ps b)) te (.dat (enc (h s b)))) : LJ K Gl js ps enc tYes te (fun s b => .nx (s, some (h s b))) := fun s b g σ τ H Q hA hm => by
  show (if true = true then te σ H (fun y H4 => Q (some y) H4) else Q none H)
  rw [if_pos rfl]
  exact he s b g σ τ H _ hA fun v H' h' => hm v H' h'
theorem lj_pureIf {Gl : sT → List (Option Tm)} {cc : sT → β → Bool} {h : sT → β → γ} (hc : ∀ s b, EVB K (setG (Gl s) js (ps b)) tt (cc s b)) (he : ∀ s b, EV K (setG (Gl s) js (ps b)) te (.dat (enc (h s b)))) : LJ K Gl js ps enc tt te (fun s b => .nx (s, if cc s b then some (h s b) else none)) := fun s b g σ τ H Q hA hm => by
  refine hc s b g σ τ H _ hA fun H' h' => ?_
  dsimp only at hm
  cases e : cc s b with
  | true =>
    rw [if_pos rfl]
    rw [e] at hm
    exact he s b g σ τ H' _ h' fun v H2 h2 => hm v H2 h2
  | false =>
    rw [if_neg Bool.false_ne_true]
    rw [e] at hm
    exact hm H' h'
theorem wipe_get {σ : St} : ∀ {vs : List Nat} {i : Nat}, i ∉ vs → (wipe σ vs)[i]? = σ[i]?
  | [], _, _ => rfl
  | v :: vs, i, h => by
    unfold wipe
    rw [List.getElem?_set_ne (by intro z; exact h (by simp [z]))]
    exact wipe_get fun z => h (List.mem_cons_of_mem _ z)
theorem wipe_hit {σ : St} : ∀ {vs : List Nat} {i : Nat}, i ∈ vs → (wipe σ vs)[i]? = if i < σ.length then some none else none
  | v :: vs, i, h => by
    unfold wipe
    by_cases hv : v = i
    · subst hv
      by_cases hl : v < σ.length
      · rw [List.getElem?_set_self (by rw [wipe_length]; exact hl), if_pos hl]
      · rw [if_neg hl, List.getElem?_eq_none (by rw [List.length_set, wipe_length]; omega)]
    · rw [List.getElem?_set_ne hv]
      exact wipe_hit (by
        rcases List.mem_cons.mp h with h | h
        · exact absurd h.symm hv
        · exact h)
theorem setS_get : ∀ {js : List Nat} {ws : List V} {σ : St} {i : Nat}, i ∉ js → (setS σ js ws)[i]? = σ[i]?
  | [], _, _, _, _ => rfl
  | _ :: _, [], _, _, _ => rfl
  | j :: js, w :: ws, σ, i, h => by
    show (setS (σ.set j (some w)) js ws)[i]? = _
    rw [setS_get fun z => h (List.mem_cons_of_mem _ z), List.getElem?_set_ne (by intro z; exact h (by simp [z]))]
theorem setS_len : ∀ {js : List Nat} {ws : List V} {σ : St}, (setS σ js ws).length = σ.length
  | [], _, _ => rfl
  | _ :: _, [], _ => rfl
  | j :: js, w :: ws, σ => by
    show (setS (σ.set j (some w)) js ws).length = _
    rw [setS_len, List.length_set]
theorem wipe_set {σ : St} {js vs : List Nat} {ws : List V} (h : ∀ j ∈ js, j ∈ vs) : wipe (setS (wipe σ vs) js ws) vs = wipe σ vs := by
  apply List.ext_getElem?
  intro i
  by_cases hi : i ∈ vs
  · rw [wipe_hit hi, wipe_hit hi, setS_len, wipe_length]
  · rw [wipe_get hi, setS_get (fun z => hi (h i z)), wipe_get hi]
theorem setG_get : ∀ {js : List Nat} {qs : List VP} {G : List (Option Tm)} {i : Nat}, i ∉ js → (setG G js qs)[i]? = G[i]?
  | [], _, _, _, _ => rfl
  | _ :: _, [], _, _, _ => rfl
  | j :: js, w :: ws, σ, i, h => by
    show (setG (σ.set j (some (.dat w))) js ws)[i]? = _
    rw [setG_get fun z => h (List.mem_cons_of_mem _ z), List.getElem?_set_ne (by intro z; exact h (by simp [z]))]
theorem setG_comm {x : Option Tm} : ∀ {js : List Nat} {qs : List VP} {G : List (Option Tm)} {j : Nat}, j ∉ js → setG (G.set j x) js qs = (setG G js qs).set j x
  | [], _, _, _, _ => rfl
  | _ :: _, [], _, _, _ => rfl
  | i :: js, q :: qs, G, j, h => by
    show setG ((G.set j x).set i (some (.dat q))) js qs = (setG (G.set i (some (.dat q))) js qs).set j x
    rw [List.set_comm _ _ (by intro z; exact h (by simp [z])), setG_comm fun z => h (List.mem_cons_of_mem _ z)]
theorem forget {g : Gh} {S H : Hp} {σ : St} {τ : List (V × Tm)} : ∀ {js : List Nat} {qs : List VP} {G : List (Option Tm)}, js.Nodup → (∀ j ∈ js, G[j]? = some none) → AtS K g S (setG G js qs) σ τ H → AtS K g S G σ τ H
  | [], _, _, _, _, h => h
  | _ :: _, [], _, _, _, h => h
  | j :: js, q :: qs, G, nd, hn, h => by
    obtain ⟨n1, n2⟩ := List.nodup_cons.mp nd
    have h' : AtS K g S (setG (G.set j (some (.dat q))) js qs) σ τ H := h
    have hj := hn j List.mem_cons_self
    have hl := (List.getElem?_eq_some_iff.mp hj).1
    have h2 : AtS K g S ((setG (G.set j (some (.dat q))) js qs).set j none) σ τ H := h'.drop1 (p := q) (by rw [setG_get n1, List.getElem?_set_self hl])
    rw [setG_comm n1, List.set_set] at h2
    have e : (setG G js qs).set j none = setG G js qs := by
      apply List.ext_getElem?
      intro i
      by_cases hi : j = i
      · subst hi; rw [List.getElem?_set_self (by rw [setG_len]; exact hl), setG_get n1, hj]
      · rw [List.getElem?_set_ne hi]
    rw [e] at h2
    exact forget n2 (fun i hi => hn i (List.mem_cons_of_mem _ hi)) h2
theorem lcR_out {f : sT → β → R (sT × Option γ)} {x : β} {xs : List β} {s0 : sT} {acc : List γ} {N : sT × List γ → Prop} {E : Er → Prop} (h : OutR (lcR f (x :: xs) s0 acc) N E) :
    OutR (f s0 x) (fun r => match r.2 with
      | none => OutR (lcR f xs r.1 acc) N E
      | some y => acc.length < 1000000 ∧ OutR (lcR f xs r.1 (acc ++ [y])) N E) (fun _ => False) := by
  unfold lcR at h
  cases e : f s0 x with
  | nx r =>
    rw [e] at h
    obtain ⟨s1, o⟩ := r
    cases o with
    | none => exact h
    | some y =>
      dsimp only at h
      by_cases hl : acc.length < 1000000
      · rw [if_pos hl] at h; exact ⟨hl, h⟩
      · rw [if_neg hl] at h; exact h.elim
  | rt r => exact r.elim
  | bk r => exact r.elim
  | ct r => exact r.elim
  | er x => rw [e] at h; exact h.elim
  | stuck => rw [e] at h; exact h.elim
theorem AtS.oaNone {g : Gh} {S H : Hp} {Γ : List (Option Tm)} {σ : St} {τ : List (V × Tm)} {v : V} {oa : Option Addr} {c : Cell} (h : AtS K g S Γ σ ((v, .own oa c) :: τ) H) : AtS K g S Γ σ ((v, .own none c) :: τ) H := by
  refine ⟨h.base, h.len, fun x hx => ?_, h.ns, fun x hx k e => ?_, ?_⟩
  · rcases List.mem_append.mp hx with hx | hx
    · exact h.all x (List.mem_append_left _ hx)
    · rcases List.mem_cons.mp hx with rfl | hx
      · obtain ⟨a, o, e, _, k⟩ := h.top
        exact ⟨a, o, e, fun b z => (nomatch z), k⟩
      · exact h.all x (List.mem_append_right _ (List.mem_cons_of_mem _ hx))
  · rcases List.mem_cons.mp hx with rfl | hx
    · cases e
    · exact h.al x (List.mem_cons_of_mem _ hx) k e
  · have := h.nd
    rw [addrs_append] at this ⊢
    cases v <;> exact this
/-- [.. for .. in .. if ..] -/
theorem f_lc {m : R (List β)} {f : sT → β → R (sT × Option γ)} (Gl : sT → List (Option Tm)) (s0 : sT) {g : Gh} {σ : St} {τ : List (V × Tm)} {H : Hp} {Q : VK} {E : Er → Prop} (hi : ITM K (Gl s0) wi m e) (ht : ∀ b, TJ K tg (e b) js (ps b)) (nd : js.Nodup)
    (hn : ∀ s, ∀ j ∈ js, (Gl s)[j]? = some none) (hv : ∀ s, ∀ j ∈ vs, (Gl s)[j]? = some none) (hsub : ∀ j ∈ js, j ∈ vs) (hl : LJ K Gl js ps enc tt te f) (hA : At K g (Gl s0) σ τ H)
    (hm : OutR (bindR m fun xs => lcR f xs s0 []) (fun r => ∀ v H', At K g (Gl r.1) σ ((v, oL enc r.2) :: τ) H' → Q v H') E) : tLc wi tg tt te vs σ H Q := by
  have hm2 : OutR m (fun xs => OutR (lcR f xs s0 []) (fun r => ∀ v H', At K g (Gl r.1) σ ((v, oL enc r.2) :: τ) H' → Q v H') E) E := by
    cases m <;> first | exact hm | (rename_i z; exact z.elim)
  show wi σ H _
  refine hi g σ τ H _ E hA (hm2.imp (fun xs q J Gd Y S1 H' w es ef hA' hG hY D hD => ?_) fun _ q => q)
  refine lc_it w (fun i H => ∃ s acc, At K ⟨S1, g.F⟩ (Gl s) σ ((.ref D, .own (some D) (.lst (acc.map enc))) :: τ) H ∧ OutR (lcR f (xs.drop i) s acc) (fun r => ∀ v H', At K g (Gl r.1) σ ((v, oL enc r.2) :: τ) H' → Q v H') E)
    ⟨s0, [], ?_, by rw [List.drop_zero]; exact q⟩ (fun i H _ ⟨s, acc, ⟨S2, h2⟩, _⟩ => hG S2 H h2.base) ?_ ?_
  · obtain ⟨S, h⟩ := hA'
    exact ⟨S, h.freshA (fun b z => (Option.some.inj z).symm) hD ⟨[], rfl, .nil⟩⟩
  · rintro i x H H' hi ⟨s, acc, hA2, q3⟩ hy
    have hx : xs[i]? = some xs[i] := List.getElem?_eq_getElem hi
    rw [List.drop_eq_getElem_cons hi] at q3
    have q4 := lcR_out q3
    have hA3 : At K ⟨S1, g.F⟩ (Gl s) (wipe σ vs) ((.ref D, .own (some D) (.lst (acc.map enc))) :: τ) H := by
      obtain ⟨S, h⟩ := hA2
      exact ⟨S, h.slots (fun j t ej => wipe_get fun z => by rw [hv s j z] at ej; cases ej) (by rw [wipe_length]; exact h.len)⟩
    have hal : ∀ y ∈ (V.ref D, Tm.own (some D) (.lst (acc.map enc))) :: τ, ∀ k, y.2 = Tm.als k → k ∉ js := fun y hy k ek hk => by
      obtain ⟨S, h⟩ := hA2
      obtain ⟨oa, c, q⟩ := h.al y hy k ek
      rw [hn s k hk] at q; cases q
    refine (ht xs[i]).2 ⟨S1, g.F⟩ (Gl s) (wipe σ vs) _ H' x _ (fun j hj => (List.getElem?_eq_some_iff.mp (hn s j hj)).1) hal (hY i _ x H H' _ _ _ hx hy hA3) fun ws H2 _ hA4 => ⟨wipe_set hsub, ?_⟩
    -- back to the slots of the def
    have back : ∀ {s' : sT} {τ' : List (V × Tm)} {H3 : Hp}, At K ⟨S1, g.F⟩ (setG (Gl s') js (ps xs[i])) (setS (wipe σ vs) js ws) τ' H3 → At K ⟨S1, g.F⟩ (Gl s') σ τ' H3 := fun {s' τ' H3} ⟨S, h⟩ => by
      have h5 := forget nd (hn s') h
      have hlen : (Gl s').length ≤ σ.length := by
        have := h5.len
        rw [setS_len, wipe_length] at this
        exact this
      exact ⟨S, h5.slots (fun j t ej => by
        have n1 : j ∉ js := fun z => by rw [hn s' j z] at ej; cases ej
        have n2 : j ∉ vs := fun z => by rw [hv s' j z] at ej; cases ej
        rw [setS_get n1, wipe_get n2]) hlen⟩
    have := hl s xs[i] ⟨S1, g.F⟩ (setS (wipe σ vs) js ws) _ H2 (fun o H4 => match o with
      | none => ∃ s acc, At K ⟨S1, g.F⟩ (Gl s) σ ((.ref D, .own (some D) (.lst (acc.map enc))) :: τ) H4 ∧ OutR (lcR f (xs.drop (i + 1)) s acc) (fun r => ∀ v H', At K g (Gl r.1) σ ((v, oL enc r.2) :: τ) H' → Q v H') E
      | some y => ∃ acc, H4 D = some (.lst acc) ∧ acc.length < sizeLine ∧ ∃ s acc', At K ⟨S1, g.F⟩ (Gl s) σ ((.ref D, .own (some D) (.lst (acc'.map enc))) :: τ) (upd H4 D (.lst (acc ++ [y]))) ∧ OutR (lcR f (xs.drop (i + 1)) s acc') (fun r => ∀ v H', At K g (Gl r.1) σ ((v, oL enc r.2) :: τ) H' → Q v H') E) hA4 (q4.imp (fun r q5 => ?_) fun _ q5 => q5)
    · exact this
    · obtain ⟨s1, o⟩ := r
      cases o with
      | none => exact fun H4 h4 => ⟨s1, acc, back h4, q5⟩
      | some y =>
        intro v H4 h4
        obtain ⟨q6, q7⟩ := q5
        obtain ⟨S, h5⟩ := back h4
        have hv5 : Hd K (enc y) v S := h5.top
        obtain ⟨a, o, e1, e2, _, _, e3, vs3, rfl, d3⟩ := h5.pop.top
        cases e1
        obtain ⟨o2, _, _, h6⟩ := h5.pop.writeT (c' := .lst ((acc ++ [y]).map enc)) (o' := .lst (vs3 ++ [v])) ⟨_, rfl, by rw [List.map_append]; exact d3.append (.cons hv5 .nil)⟩
        exact ⟨vs3, e3, by rw [d3.len, List.length_map]; exact lt_line q6, s1, acc ++ [y], ⟨S, h6⟩, q7⟩
  · rintro H ⟨s, acc, hA2, q3⟩
    rw [List.drop_length] at q3
    obtain ⟨S, h⟩ := hA2
    exact q3 (.ref D) H (At.unS ⟨S, h.oaNone⟩ es ef)
end

/-! ### a def's body -/
section
open PyProof.Rows (envOfC)
variable {P : Program} {w : World} {K : PySem.W.Frag} {mg : Str → Option Value} {base : Heap} {EC : Str → Addr} {α ρ : Type} {n : Nat} {pre : α → List Addr → List (Option Tm)} {post : ρ → List Addr → List (Option Tm)} {ret : ρ → Tm}
abbrev W0 (E : XK) : WX := fun cls d _ H => E cls d H
theorem start_at {g : Gh} {Γ : List (Option Tm)} {N : List Str} {vs : List V} {H : Hp} (h : At K g Γ (vs.map some) [] H) (hl : vs.length = Γ.length) : At K g (Γ ++ List.replicate (N.length - vs.length) none) (L2.start N vs) [] H := by
  obtain ⟨S, h⟩ := h
  have e : ∀ (Γ : List (Option Tm)) (σ : St) (k : Nat), Γ.length = σ.length → pack (σ ++ List.replicate k none) (Γ ++ List.replicate k none) = pack σ Γ := by
    intro Γ
    induction Γ with
    | nil =>
      intro σ k hl
      cases σ with
      | cons _ _ => simp at hl
      | nil =>
        induction k with
        | zero => rfl
        | succ k ih => simpa [pack, List.replicate_succ] using ih
    | cons x Γ ih =>
      intro σ k hl
      cases σ with
      | nil => simp at hl
      | cons y σ =>
        have := ih σ k (by simpa using hl)
        cases x with
        | none => simpa [pack] using this
        | some t => cases y <;> simpa [pack] using this
  have ep := e Γ (vs.map some) (N.length - vs.length) (by simpa using hl.symm)
  unfold L2.start
  refine ⟨S, h.base, by simp [hl], fun x hx => ?_, by rw [ep]; exact h.ns, (fun x hx => nomatch hx), by rw [ep]; exact h.nd⟩
  rw [ep] at hx
  have q := h.all x hx
  obtain ⟨v', t'⟩ := x
  cases t' with
  | als j =>
    rw [List.append_nil] at hx
    exact absurd rfl (h.ns _ hx j)
  | dat _ => exact q
  | own _ _ => exact q
  | bad => exact q
/-- a def whose mirror always hands back -/
theorem fn_ok {x qual : Str} {st : Stmt} {f : Addr} {fd : FuncData} {N pn : List Str} {k : Nat} (F : Fun K x qual st f fd) (S : FnScope N pn (defScope st)) (hn : pn.length = n) (mb : α → O ρ Empty Empty)
    (hbody : ∀ (cdv : Value) (A : Around) (outer : List Env) (s : Shared) (H : Hp) (E : XK), Room k (A.deeper (envOfC qual (defScope st) s.heap.objs.size f cdv)) →
      ∃ ts, PSs (cxOf (L2.CX P w) P w K mg base N qual (defScope st) f cdv A outer s H E) (defBody st) ts ∧
        ∀ (arg : α) (as : List Addr), (pre arg as).length = n → BJ K (⟨EC, fun r => post r as, ret, [], WE (W0 E)⟩ : Fx ρ) (pre arg as ++ List.replicate (N.length - n) none) ts (mb arg) (fun _ => []) (fun _ => []) (fun _ => [])) :
    FnOk P w K mg base (L2.CX P w) (k + 1) f fd pn (Spec K EC n pre (fun a => fin (mb a) fun z => z.elim) post ret) := by
  refine F.okX S (fun vs H Q E h => ?_) fun cdv A outer s H vs Q E hr h => ?_
  · rw [h.1, hn]
  · obtain ⟨ts, h1, h2⟩ := hbody cdv A outer s H E hr
    obtain ⟨hl, arg, as, g, hp, hA, hm⟩ := h
    refine ⟨ts, h1, h2 arg as hp g _ H _ ?_ ?_⟩
    · have := start_at (N := N) hA (by rw [hl, hp])
      rw [hl] at this
      exact this
    · dsimp only at hm
      cases e : mb arg with
      | nx a => exact a.elim
      | rt r => rw [e] at hm; exact fun v H' σ' h' => hm v H' σ' h'
      | bk l => exact l.elim
      | ct l => exact l.elim
      | er x => rw [e] at hm; exact hm
      | stuck => rw [e] at hm; exact hm.elim
/-- a def that may come to its end -/
theorem fn_okN {x qual : Str} {st : Stmt} {f : Addr} {fd : FuncData} {N pn : List Str} {k : Nat} (F : Fun K x qual st f fd) (S : FnScope N pn (defScope st)) (hn : pn.length = n) (mb : α → O ρ Empty ρ) (hN : ∀ r, ret r = .dat eN)
    (hbody : ∀ (cdv : Value) (A : Around) (outer : List Env) (s : Shared) (H : Hp) (E : XK), Room k (A.deeper (envOfC qual (defScope st) s.heap.objs.size f cdv)) →
      ∃ ts, PSs (cxOf (L2.CX P w) P w K mg base N qual (defScope st) f cdv A outer s H E) (defBody st) ts ∧
        ∀ (arg : α) (as : List Addr), (pre arg as).length = n → BJ K (⟨EC, fun r => post r as, ret, [], WE (W0 E)⟩ : Fx ρ) (pre arg as ++ List.replicate (N.length - n) none) ts (mb arg) (fun r => post r as) (fun _ => []) (fun _ => [])) :
    FnOk P w K mg base (L2.CX P w) (k + 1) f fd pn (Spec K EC n pre (fun a => fin (mb a) .nx) post ret) := by
  refine F.okX S (fun vs H Q E h => ?_) fun cdv A outer s H vs Q E hr h => ?_
  · rw [h.1, hn]
  · obtain ⟨ts, h1, h2⟩ := hbody cdv A outer s H E hr
    obtain ⟨hl, arg, as, g, hp, hA, hm⟩ := h
    refine ⟨ts, h1, h2 arg as hp g _ H _ ?_ ?_⟩
    · have := start_at (N := N) hA (by rw [hl, hp])
      rw [hl] at this
      exact this
    · dsimp only at hm
      cases e : mb arg with
      | nx r => rw [e] at hm; exact fun σ' H' h' => hm .non H' σ' (by rw [hN r]; exact h'.scal fun _ => rfl)
      | rt r => rw [e] at hm; exact fun v H' σ' h' => hm v H' σ' h'
      | bk l => exact l.elim
      | ct l => exact l.elim
      | er x => rw [e] at hm; exact hm
      | stuck => rw [e] at hm; exact hm.elim
end
end Gv

set_option Elab.async false
set_option linter.all false
set_option maxRecDepth 100000
set_option maxHeartbeats 2000000
/-! Gv: errors -/
namespace Gv
open PySem L2

/-! ### several clauses, with names or without -/
structure Hn where
  c : Value
  i : Option Nat
  ts : Addr → Value → Option Addr → TS
def goN (i : Option Nat) (P : St → Hp → Prop) : St → Hp → Prop := match i with
  | none => P
  | some j => fun σ H => P (σ.set j none) H
def setN (i : Option Nat) (σ : St) (a : Addr) : St := match i with
  | none => σ
  | some j => σ.set j (some (.ref a))
def endN (i : Option Nat) (D : Ends) : Ends := ⟨goN i D.nx, D.rt, goN i D.bk, goN i D.ct⟩
def wHs (K : PySem.W.Frag) (Wout : WX) (D : Ends) : List Hn → WX
  | [] => Wout
  | h :: r => fun cls d σ H => ∃ b, PySem.W.exmOne K cls h.c = some b ∧ (b = true → ∀ a, H a = none → h.ts a cls d (endN h.i D) (setN h.i σ a) H) ∧ (b = false → wHs K Wout D r cls d σ H)
/-- a try's reading -/
def tTry (K : PySem.W.Frag) (Wout : WX) (l : List Hn) (tb : WX → TS) : TS := fun D σ H => tb (wHs K Wout D l) D σ H
inductive HsOk (X : Cx) : List ExceptHandler → List Hn → Prop
  | nil : HsOk X [] []
  | plain {x : Str} {c : Value} {ts : Addr → Value → Option Addr → TS} {b0 : Stmt} {suite : List Stmt} {np pos' : Pos} {hds : List ExceptHandler} {l : List Hn} (hc : Names X x c)
      (hsu : ∀ (a : Addr) (oe : Obj) (cls : Value) (d : Option Addr) (pn : List (Addr × Obj)), Zc cls d oe → (∃ vs, oe.data = .fields vs) → PSs (X.suite a ((a, oe) :: pn)) (b0 :: suite) (ts a cls d)) (r : HsOk X hds l) :
      HsOk X (.ExceptHandler (some (.Name x np)) none (b0 :: suite) pos' :: hds) (⟨c, none, ts⟩ :: l)
  | named {x n : Str} {i : Nat} {c : Value} {ts : Addr → Value → Option Addr → TS} {b0 : Stmt} {suite : List Stmt} {np pos' : Pos} {hds : List ExceptHandler} {l : List Hn} (hc : Names X x c) (hi : X.N[i]? = some n) (hln : X.env.kindOf n = some .local)
      (hsu : ∀ (a : Addr) (oe : Obj) (cls : Value) (d : Option Addr) (pn : List (Addr × Obj)), Zc cls d oe → (∃ vs, oe.data = .fields vs) → PSs (X.suite a ((a, oe) :: pn)) (b0 :: suite) (ts a cls d)) (r : HsOk X hds l) :
      HsOk X (.ExceptHandler (some (.Name x np)) (some n) (b0 :: suite) pos' :: hds) (⟨c, some i, ts⟩ :: l)
section
variable {X : Cx} {body : List Stmt} {h₀ : ExceptHandler} {hds : List ExceptHandler} {l : List Hn} {pos : Pos} {tb : WX → TS} {Wout : WX}
theorem ps_try (hs : X.stack = X.env :: X.outer) (hf : X.env.frame = some X.env.locals) (hN : X.N.Nodup) (tk : Takes X Wout)
    (hb : ∀ (W : WX) (pn : List (Addr × Obj)) (xe : Value → Shared → Prop), Takes (X.tr pn xe) W → PassesOwn (model X.prog X.w) X.A X.env xe → PSs (X.tr pn xe) body (tb W))
    (hh : HsOk X (h₀ :: hds) l) : PS X (.Try body (h₀ :: hds) [] [] pos) (tTry X.K Wout l tb) := by
  refine ⟨fun pins s σ H D I hw => ?_⟩
  have ok := I.ok
  have frs0 : X.A.frames = some (X.env :: X.outer) := by rw [ok.frames, hs]
  refine wpAny_Try_except ?_
  have bodyOk := (hb (wHs X.K Wout D l) (X.pn ++ pins)
    (fun e s1 => wpAny (model X.prog X.w) X.A (noteFrame e X.env) (fun _ s2 => wpAny (model X.prog X.w) X.A (setFlight e none)
      (fun _ s3 => wpAny (model X.prog X.w) X.A (handleBy e X.env (h₀ :: hds)) (SP X pins D) X.xe s3) X.xe s2) X.xe s1)
    ?caught PassesOwn.looking).run [] s σ H D (I.toTry _) hw
  case caught =>
    intro u s' xx
    obtain ⟨a, B, sI, pins', σ', H', cls, d, eu, J', nb, up, sky, na, os, ag, w⟩ := xx
    subst eu
    have J : Inv X pins σ' H' sI := J'.ofTry ok
    have sky2 : Sky B (X.env :: X.outer) a (Zc cls d) X.env.locals s'.heap := hs ▸ sky
    show wpAny (model X.prog X.w) X.A (noteFrame (.ref a) X.env) _ _ _
    refine Sky.land Zc.steady frs0 hf sky2 fun g3 fl3 up3 => ?_
    have J3 : Inv X pins σ' H' { s' with heap := g3 } := J.landed nb fl3.1 (up.trans up3) os ag
    obtain ⟨o3, v3, at3, z3, dat3⟩ := fl3.there
    have out : a ∉ frs (X.env :: X.outer) := fun hm => by
      obtain ⟨_, o', e', hnf⟩ := fl3.2.2.1.mem hm
      rw [at3] at e'
      cases e'
      exact hnf _ dat3
    have offL : a ≠ X.env.locals := fun z => out (List.mem_filterMap.mpr ⟨X.env, List.mem_cons_self, by rw [hf, z]⟩)
    have offF : a ∉ X.fs := fun hm => by
      obtain ⟨e, he, q⟩ := List.mem_filterMap.mp hm
      exact out (List.mem_filterMap.mpr ⟨e, List.mem_cons_of_mem _ he, q⟩)
    have S3 := J3.suite at3 dat3 na offL offF
    -- a clause's class is asked
    have asked : ∀ {x : Str} {np : Pos} {c : Value} {Q E : Value → Shared → Prop}, Names X x c → Q c { s' with heap := g3 } →
        wpAny (model X.prog X.w) (X.A.mark (some (.ref a))) (eval (.Name x np) X.env) Q E { s' with heap := g3 } := fun {x np c Q E} hc q => by
      obtain ⟨hg, hdbg, hm | ⟨hm, hv, hnn⟩⟩ := hc
      · exact ld_glob (X := X.suite a ((a, o3) :: (X.pn ++ pins))) S3 hg hm q hdbg
      · exact ld_blt (X := X.suite a ((a, o3) :: (X.pn ++ pins))) S3 hg hm hv q hnn hdbg
    have look : PySem.W.Looks (model X.prog X.w) g3 (typeOf (.ref a)) cls := fun A Q E s k q => wpAny_typeOf_ref (k _ _ at3) (by rw [z3.1]; exact q)
    have go : ∀ {hd : List ExceptHandler} {l' : List Hn}, HsOk X hd l' → wHs X.K Wout D l' cls d σ' H' → wpAny (model X.prog X.w) X.A (handleBy (.ref a) X.env hd) (SP X pins D) X.xe { s' with heap := g3 } := by
      intro hd l' hk
      induction hk with
      | nil =>
        intro w
        refine wpAny_handleBy_nil ?_
        obtain ⟨k1, k2, k3, oe, vs, T, oT, ts', he, hz, hd, h1, hr⟩ := id fl3
        unfold PySem.passOn
        refine wpAny_bind (wpAny_field he hd h1 ?_)
        rw [if_neg (show ¬ ((Value.ref T == Value.none) = true) from by simp)]
        have fly : wpAny (model X.prog X.w) X.A (setFlight (.ref a) X.env.frame)
            (fun _ s4 => wpAny (model X.prog X.w) X.A (throw (.ref a) : Sem Flow) (SP X pins D) X.xe s4) X.xe { s' with heap := g3 } := by
          rw [hf]
          refine HandSPX.setFlight_upZ fl3 fun g4 hh4 up4 => wpAny_throw (tk _ _ ?_)
          refine ⟨a, B, sI, pins, σ', H', cls, d, rfl, J, nb, (up.trans up3).trans up4, .inr (.inr ?_), na, os, ag, w⟩
          rw [hs]
          exact hh4
        first
          | exact wpAny_bind (wpAny_pure (wpAny_bind fly))
          | exact wpAny_bind fly
      | plain hc hsu r ih =>
        intro w
        obtain ⟨b, hb1, hyes, hno⟩ := w
        refine wpAny_handleBy_cons (codeAny_handlers_test ?_) (by intro q; cases q)
        refine asked hc ((PySem.W.exm_one (M := model X.prog X.w) J3.kIn look hb1).here ?_)
        cases b with
        | false =>
          show wpAny _ X.A (handleBy (.ref a) X.env _) _ _ _
          exact ih (hno rfl)
        | true =>
          refine codeAny_handlers_suite (HandSPX.lands_againZ fl3 fun g4 fl4 up4 => ?_)
          have J4 : Inv X pins σ' H' { s' with heap := g4 } := J.landed nb fl4.1 ((up.trans up3).trans up4) os ag
          obtain ⟨o4, v4, at4, z4, dat4⟩ := fl4.there
          have S4 := J4.suite at4 dat4 na offL offF
          refine wpAny_mono ((hsu a o4 cls d (X.pn ++ pins) z4 ⟨_, dat4⟩).run [] _ _ H' _ S4 (hyes rfl a na)) (fun f s6 hsp => ?_) (fun _ _ z => False.elim z)
          cases f with
          | next => obtain ⟨p, q, S6, q6⟩ := hsp; exact ⟨p, q, S6.unsuite ok, q6⟩
          | brk => obtain ⟨p, q, S6, q6⟩ := hsp; exact ⟨p, q, S6.unsuite ok, q6⟩
          | cont => obtain ⟨p, q, S6, q6⟩ := hsp; exact ⟨p, q, S6.unsuite ok, q6⟩
          | ret u => obtain ⟨v6, p, q, S6, r6, q6⟩ := hsp; exact ⟨v6, p, q, S6.unsuite ok, r6, q6⟩
      | named hc hi hln hsu r ih =>
        intro w
        obtain ⟨b, hb1, hyes, hno⟩ := w
        refine wpAny_handleBy_cons (codeAny_handlers_test ?_) (by intro q; cases q)
        refine asked hc ((PySem.W.exm_one (M := model X.prog X.w) J3.kIn look hb1).here ?_)
        cases b with
        | false =>
          show wpAny _ X.A (handleBy (.ref a) X.env _) _ _ _
          exact ih (hno rfl)
        | true =>
          refine codeAny_handlers_suite_as (HandSPX.lands_againZ fl3 fun g4 fl4 up4 => ?_)
          have J4 : Inv X pins σ' H' { s' with heap := g4 } := J.landed nb fl4.1 ((up.trans up3).trans up4) os ag
          obtain ⟨o4, v4, at4, z4, dat4⟩ := fl4.there
          have S4 := J4.suite at4 dat4 na offL offF
          refine store_ok (X := X.suite a ((a, o4) :: (X.pn ++ pins))) (v := .ref a) S4 hN hi (.inl hln) rfl (fun s5 S5 => ?_) (.inr hln)
          refine wpAny_mono ((hsu a o4 cls d (X.pn ++ pins) z4 ⟨_, dat4⟩).run [] s5 _ H' _ S5 (hyes rfl a na)) (fun f s6 hsp => ?_) (fun _ _ z => False.elim z)
          cases f with
          | next => obtain ⟨p, q, S6, q6⟩ := hsp; exact gone_ok (S6.unsuite ok) hN hi hln fun s7 J7 => ⟨_, _, J7, q6⟩
          | brk => obtain ⟨p, q, S6, q6⟩ := hsp; exact gone_ok (S6.unsuite ok) hN hi hln fun s7 J7 => ⟨_, _, J7, q6⟩
          | cont => obtain ⟨p, q, S6, q6⟩ := hsp; exact gone_ok (S6.unsuite ok) hN hi hln fun s7 J7 => ⟨_, _, J7, q6⟩
          | ret u => obtain ⟨v6, p, q, S6, r6, q6⟩ := hsp; exact gone_ok (S6.unsuite ok) hN hi hln fun s7 J7 => ⟨_, _, _, J7, r6, q6⟩
    exact go hh w
  refine wpAny_mono bodyOk (fun f s1 hsp => ?_) (fun e s1 he => he)
  cases f with
  | next => obtain ⟨p, q, J, q1⟩ := hsp; exact wpAny_execs_nil ⟨p, q, J.ofTry ok, q1⟩
  | brk => obtain ⟨p, q, J, q1⟩ := hsp; exact ⟨p, q, J.ofTry ok, q1⟩
  | cont => obtain ⟨p, q, J, q1⟩ := hsp; exact ⟨p, q, J.ofTry ok, q1⟩
  | ret u => obtain ⟨v, p, q, J, r, q1⟩ := hsp; exact ⟨v, p, q, J.ofTry ok, r, q1⟩
end

/-! ### mirrors of try -/
def tryO {ρ lam α : Type} (m : O ρ lam α) (h : Er → O ρ lam α) : O ρ lam α := match m with
  | .er x => h x
  | m => m
def noEr {ρ lam α : Type} (m : O ρ lam α) : O ρ lam α := match m with
  | .er _ => .stuck
  | m => m
/-- one clause: its class asked, its suite, the other clauses -/
def clO {ρ lam α : Type} (sub : Str → Option Bool) (ms h : Er → O ρ lam α) (x : Er) : O ρ lam α := match sub x.c with
  | some true => noEr (ms x)
  | some false => h x
  | none => .stuck
/-- the exception that a suite holds -/
def eX (a : Addr) (d : Option Addr) (x : Er) : VP := fun K v S => v = .ref a ∧ XF K S x d
theorem XF.mono {K : PySem.W.Frag} {S S' : Hp} {x : Er} {d : Option Addr} (h : XF K S x d) (e : Same S S') : XF K S' x d := by
  rcases h with h | ⟨dd, fsV, h1, h2, h3⟩
  · exact .inl h
  · exact .inr ⟨dd, fsV, h1, e _ _ h2, Paired.mapP h3 fun _ _ q => ⟨q.1, q.2.mono e⟩⟩
section
variable {K : PySem.W.Frag} {ρ lam α : Type} {X : Fx ρ} {Γ Gt : List (Option Tm)} {n : α → List (Option Tm)} {b c : lam → List (Option Tm)} {t u : TS} {te : TE} {W Wout : WX}
theorem Out.noEr {m : O ρ lam α} {N : α → Prop} {T : ρ → Prop} {B C : lam → Prop} {E E' : Er → Prop} (h : Out (Gv.noEr m) N T B C E) : Out m N T B C E' := by
  cases m <;> first | exact h | exact h.elim
def slotX (io : Option Nat) (G : List (Option Tm)) (a : Addr) (d : Option Addr) (x : Er) : List (Option Tm) := match io with
  | none => G
  | some i => G.set i (some (.dat (eX a d x)))
inductive HJ (K : PySem.W.Frag) {ρ lam α : Type} (X : Fx ρ) (Gt : List (Option Tm)) (n : α → List (Option Tm)) (b c : lam → List (Option Tm)) : List Hn → (Er → O ρ lam α) → Prop
  | nil : HJ K X Gt n b c [] (fun x => .er x)
  | cons {cl : Value} {io : Option Nat} {ts : Addr → Value → Option Addr → TS} {l : List Hn} {sub : Str → Option Bool} {ms h : Er → O ρ lam α}
      (hsub : ∀ nm r, sub nm = some r → PySem.W.exmOne K (.ref (X.EC nm)) cl = some r)
      (hi : ∀ i, io = some i → i < Gt.length ∧ (∀ a, (n a)[i]? = some none ∨ (n a)[i]? = none) ∧ (∀ a, (b a)[i]? = some none ∨ (b a)[i]? = none) ∧ (∀ a, (c a)[i]? = some none ∨ (c a)[i]? = none))
      (hs : ∀ x a d, BJ K { X with EW := fun _ _ _ _ => False } (slotX io Gt a d x) (ts a (.ref (X.EC x.c)) d) (ms x) n b c)
      (r : HJ K X Gt n b c l h) : HJ K X Gt n b c (⟨cl, io, ts⟩ :: l) (clO sub ms h)
theorem At.anyS {g : Gh} {σ : St} {H : Hp} {i : Nat} (h : At K g Γ σ [] H) (hn : Γ[i]? = some none ∨ Γ[i]? = none) (x : Option V) : At K g Γ (σ.set i x) [] H := by
  obtain ⟨S, h⟩ := h
  exact ⟨S, h.any hn x⟩
theorem HJ.go {l : List Hn} {h : Er → O ρ lam α} (hj : HJ K X Gt n b c l h) (hEW : X.EW = WE Wout) (hw : Le X.Gw Gt) {g : Gh} {D : Ends} {x : Er} (hm : Out (h x) (NxW K g n D.nx) (RtW K g X D.rt) (NxW K g b D.bk) (NxW K g c D.ct) (ErW K g X)) {σ' : St} {H' S' : Hp} {d : Option Addr}
    (hA : AtS K g S' Gt σ' [] H') (hx : XF K S' x d) : wHs K Wout D l (.ref (X.EC x.c)) d σ' H' := by
  induction hj with
  | nil =>
    have sub : (pack σ' X.Gw ++ []).Sublist (pack σ' Gt ++ []) := (hw.sub σ').append_right []
    have h2 : AtS K g S' X.Gw σ' [] H' := ⟨hA.base, Nat.le_trans hw.len hA.len, fun y hy => hA.all y (sub.subset hy), fun y hy => hA.ns y ((hw.sub σ').subset hy), (fun y hy => nomatch hy), hA.nd.sublist (addrs_sub sub)⟩
    have q := hm σ' H' S' d h2 hx
    rw [hEW] at q
    exact q
  | @cons cl io ts l sub ms h hsub hi hs r ih =>
    unfold clO at hm
    cases e : sub x.c with
    | none => rw [e] at hm; exact hm.elim
    | some r =>
      rw [e] at hm
      cases r with
      | false => exact ⟨false, hsub _ _ e, (fun z => nomatch z), fun _ => ih hm⟩
      | true =>
        refine ⟨true, hsub _ _ e, fun _ a na => ?_, (fun z => nomatch z)⟩
        cases io with
        | none => exact hs x a d g σ' H' _ ⟨S', hA⟩ hm.noEr
        | some i =>
          obtain ⟨h1, h2, h3, h4⟩ := hi i rfl
          have hA2 : AtS K g S' (Gt.set i (some (.dat (eX a d x)))) (σ'.set i (some (.ref a))) [] H' := (hA.push (p := eX a d x) (v := .ref a) (.of ⟨rfl, hx⟩)).set h1 (fun j z => nomatch z) (fun y hy => nomatch hy)
          refine hs x a d g (σ'.set i (some (.ref a))) H' _ ⟨S', hA2⟩ (hm.noEr.imp (fun y q σ2 H2 hA3 => q _ _ (hA3.anyS (h2 y) none)) (fun _ q => q) (fun y q σ2 H2 hA3 => q _ _ (hA3.anyS (h3 y) none)) (fun y q σ2 H2 hA3 => q _ _ (hA3.anyS (h4 y) none)) fun _ q => q)
theorem bj_try {l : List Hn} {tb : WX → TS} {mb : O ρ lam α} {h : Er → O ρ lam α} (hEW : X.EW = WE Wout) (hw : Le X.Gw Gt) (hb : ∀ W, BJ K { X with Gw := Gt, EW := WE W } Γ (tb W) mb n b c) (hh : HJ K X Gt n b c l h) :
    BJ K X Γ (tTry K Wout l tb) (tryO mb h) n b c := fun g σ H D hA hm => by
  show tb (wHs K Wout D l) D σ H
  refine hb (wHs K Wout D l) g σ H D hA ?_
  cases mb with
  | nx a => exact hm
  | rt r => exact hm
  | bk l => exact hm
  | ct l => exact hm
  | stuck => exact hm
  | er x => exact fun σ' H' S' d hA' hx => hh.go hEW hw hm hA' hx

/-! ### raise X(e), class X: def __init__(self, f): self.f = f -/
def spIni1 (K : PySem.W.Frag) (f : Str) : Sp := fun vs H Q _ => ∃ (a C : Addr) (y : V), vs = [.ref a, y] ∧ H a = some (exo a C none) ∧ OexC K C ∧ PySem.W.findIn K (.ref C) f = some none ∧
  ∀ dx, H dx = none → dx ≠ a → Q .non (upd (upd H dx (exd dx [(f, y)])) a (exo a C (some dx)))
def spIni2 (K : PySem.W.Frag) (f f2 : Str) : Sp := fun vs H Q _ => ∃ (a C : Addr) (y z : V), vs = [.ref a, y, z] ∧ H a = some (exo a C none) ∧ OexC K C ∧ PySem.W.findIn K (.ref C) f = some none ∧ PySem.W.findIn K (.ref C) f2 = some none ∧
  ∀ dx, H dx = none → dx ≠ a → Q .non (upd (upd (upd H dx (exd dx [(f, y)])) a (exo a C (some dx))) dx (exd dx [(f2, z), (f, y)]))
theorem ini1_ok {σ : St} {f : Str} {vs : List V} {H : Hp} {Q : VK} {E : XK} {D : Ends} (hD : D.nx = fun _ H' => Q .non H') (h0 : ∀ a y, vs = [.ref a, y] → σ[0]? = some (some (.ref a)) ∧ σ[1]? = some (some y)) (h : spIni1 K f vs H Q E) : tSeq (tOst K f (tVar 0) (tVar 1)) tNext D σ H := by
  obtain ⟨a, C, y, e, h1, T, hno, k⟩ := h
  obtain ⟨e0, e1⟩ := h0 a y e
  refine ⟨y, e1, .ref a, e0, a, C, rfl, T, hno, .inl ⟨h1, fun dx n ne => ?_⟩⟩
  show D.nx σ _
  rw [hD]
  exact k dx n ne
theorem ini2_ok {σ : St} {f f2 : Str} {vs : List V} {H : Hp} {Q : VK} {E : XK} {D : Ends} (hD : D.nx = fun _ H' => Q .non H') (h0 : ∀ a y z, vs = [.ref a, y, z] → σ[0]? = some (some (.ref a)) ∧ σ[1]? = some (some y) ∧ σ[2]? = some (some z)) (h : spIni2 K f f2 vs H Q E) :
    tSeq (tOst K f (tVar 0) (tVar 1)) (tSeq (tOst K f2 (tVar 0) (tVar 2)) tNext) D σ H := by
  obtain ⟨a, C, y, z, e, h1, T, hno, hno2, k⟩ := h
  obtain ⟨e0, e1, e2⟩ := h0 a y z e
  refine ⟨y, e1, .ref a, e0, a, C, rfl, T, hno, .inl ⟨h1, fun dx n ne => ?_⟩⟩
  refine ⟨z, e2, .ref a, e0, a, C, rfl, T, hno2, .inr ⟨dx, _, upd_same, by rw [upd_ne ne, upd_same], by simp, ?_⟩⟩
  show D.nx σ _
  rw [hD]
  exact k dx n ne
/-- the heap behind C(y): the class's object is gone, its dict stands -/
theorem gone_heap {H : Hp} {a dx : Addr} {o1 o2 o3 o4 : HO} (n : H a = none) (ne : dx ≠ a) : upd (del (upd (upd (upd H a o1) dx o2) a o3) a) dx o4 = upd H dx o4 := by
  funext b
  by_cases hb : b = dx
  · subst hb; rw [upd_same, upd_same]
  · rw [upd_ne hb, upd_ne hb]
    by_cases ha : b = a
    · subst ha; rw [del_same, n]
    · rw [del_ne ha, upd_ne ha, upd_ne hb, upd_ne ha]
theorem gone_heap2 {H : Hp} {a dx : Addr} {o1 o2 o3 o4 o5 : HO} (n : H a = none) (ne : dx ≠ a) : upd (del (upd (upd (upd (upd H a o1) dx o2) a o3) dx o5) a) dx o4 = upd H dx o4 := by
  funext b
  by_cases hb : b = dx
  · subst hb; rw [upd_same, upd_same]
  · rw [upd_ne hb, upd_ne hb]
    by_cases ha : b = a
    · subst ha; rw [del_same, n]
    · rw [del_ne ha, upd_ne hb, upd_ne ha, upd_ne hb, upd_ne ha]
theorem bj_raise1 {C : Addr} {f cn : Str} {dv : PyData} (hC : X.EC cn = C) (T : OexC K C) (hno : PySem.W.findIn K (.ref C) f = some none) (hEW : X.EW = WE W) (hw : Le X.Gw Γ) (he : EV K Γ te (.dat (eD dv))) :
    BJ K X Γ (tSeq (fun _ σ H => tMkO C (spIni1 K f) [] (tCons te tNil) σ H fun cls d H' => W cls d σ H') u) (.er ⟨cn, [(f, dv)]⟩ : O ρ lam α) n b c := fun g σ H D hA hm => by
  refine he g σ [] H _ hA fun y H1 ⟨S, h⟩ => ⟨by simp, fun a na => ⟨a, C, y, rfl, upd_same, T, hno, fun dx nd ne => ⟨rfl, dx, [(f, y)], upd_same, ?_, ?_, ?_⟩⟩⟩
  · rw [upd_ne ne, upd_same]
  · rw [upd_ne ne] at nd; exact nd
  · rw [upd_ne ne] at nd
    rw [gone_heap na ne]
    have hv := h.top
    have h1 := (h.pop.lay (o := .xd [(f, y)]) nd)
    have sub : (pack σ X.Gw ++ []).Sublist (pack σ Γ ++ []) := (hw.sub σ).append_right []
    have h2 : AtS K g _ X.Gw σ [] (upd H1 dx (.xd [(f, y)])) := ⟨h1.base, Nat.le_trans hw.len h1.len, fun x hx => h1.all x (sub.subset hx), fun x hx => h1.ns x ((hw.sub σ).subset hx), (fun x hx => nomatch hx), h1.nd.sublist (addrs_sub sub)⟩
    have q := hm σ _ _ (some dx) h2 (.inr ⟨dx, [(f, y)], rfl, upd_same, .cons ⟨rfl, Hd.mono hv fun b o e => by rw [upd_ne (ne_of_none e (nS_of h nd))]; exact e⟩ .nil⟩)
    rw [hEW] at q
    rw [← hC]
    exact q
theorem bj_raise2 {C : Addr} {f f2 cn : Str} {dv dw : PyData} {te2 : TE} (hC : X.EC cn = C) (T : OexC K C) (hno : PySem.W.findIn K (.ref C) f = some none) (hno2 : PySem.W.findIn K (.ref C) f2 = some none) (hEW : X.EW = WE W) (hw : Le X.Gw Γ) (he : EV K Γ te (.dat (eD dv))) (he2 : EV K Γ te2 (.dat (eD dw))) :
    BJ K X Γ (tSeq (fun _ σ H => tMkO C (spIni2 K f f2) [] (tCons te (tCons te2 tNil)) σ H fun cls d H' => W cls d σ H') u) (.er ⟨cn, [(f2, dw), (f, dv)]⟩ : O ρ lam α) n b c := fun g σ H D hA hm => by
  refine he g σ [] H _ hA fun y H0 h0 => he2 g σ _ H0 _ h0 fun z H1 ⟨S, h⟩ => ⟨by simp, fun a na => ⟨a, C, y, z, rfl, upd_same, T, hno, hno2, fun dx nd ne => ⟨rfl, dx, [(f2, z), (f, y)], ?_, upd_same, ?_, ?_⟩⟩⟩
  · rw [upd_ne (Ne.symm ne), upd_same]
  · rw [upd_ne ne] at nd; exact nd
  · rw [upd_ne ne] at nd
    rw [gone_heap2 na ne]
    have hv := h.top
    have hv2 := h.pop.top
    have h1 := (h.pop.pop.lay (o := .xd [(f2, z), (f, y)]) nd)
    have sub : (pack σ X.Gw ++ []).Sublist (pack σ Γ ++ []) := (hw.sub σ).append_right []
    have h2 : AtS K g _ X.Gw σ [] (upd H1 dx (.xd [(f2, z), (f, y)])) := ⟨h1.base, Nat.le_trans hw.len h1.len, fun x hx => h1.all x (sub.subset hx), fun x hx => h1.ns x ((hw.sub σ).subset hx), (fun x hx => nomatch hx), h1.nd.sublist (addrs_sub sub)⟩
    have same : Same S (upd S dx (.xd [(f2, z), (f, y)])) := fun b o e => by rw [upd_ne (ne_of_none e (nS_of h nd))]; exact e
    have q := hm σ _ _ (some dx) h2 (.inr ⟨dx, [(f2, z), (f, y)], rfl, upd_same, .cons ⟨rfl, Hd.mono hv same⟩ (.cons ⟨rfl, Hd.mono hv2 same⟩ .nil)⟩)
    rw [hEW] at q
    rw [← hC]
    exact q
/-- err.f in a suite -/
def fldR (x : Er) (cn f : Str) : R PyData := if x.c = cn then (match x.fs.lookup f with
  | some d => .nx d
  | none => .stuck) else .stuck
theorem lookup_fs {S : Hp} {f : Str} {d : PyData} : ∀ {fs : List (Str × PyData)} {fsV : List (Str × V)}, Paired (fun (p : Str × PyData) (q : Str × V) => p.1 = q.1 ∧ Hd K (eD p.2) q.2 S) fs fsV → fs.lookup f = some d → ∃ v, fsV.lookup f = some v ∧ Hd K (eD d) v S
  | _, _, .nil, h => by simp at h
  | (a, p) :: _, (a', q) :: _, .cons r t, h => by
    obtain ⟨r1, r2⟩ := r
    have r1' : a = a' := r1
    subst r1'
    by_cases e : f = a
    · subst e
      simp only [List.lookup_cons, beq_self_eq_true] at h ⊢
      cases h
      exact ⟨q, rfl, r2⟩
    · have e2 : (f == a) = false := by simpa using e
      simp only [List.lookup_cons, e2] at h ⊢
      exact lookup_fs t h
theorem x_xf {a C : Addr} {d : Option Addr} {x : Er} {cn f : Str} {i : Nat} {EC : Str → Addr} {g : Gh} {σ : St} {τ : List (V × Tm)} {H : Hp} {Q : VK} {E : Er → Prop} (hC : EC cn = C) (hg : Γ[i]? = some (some (.dat (eX a d x)))) (hA : At K g Γ σ τ H)
    (hm : OutR (fldR x cn f) (fun y => ∀ v H', At K g Γ σ ((v, .dat (eD y)) :: τ) H' → Q v H') E) : tXf a (.ref (EC x.c)) d C f (tVar i) σ H Q :=
  ev_var hg g σ τ H _ hA fun v H1 ⟨S, h⟩ => by
    obtain ⟨S0, e0, hv, hx⟩ := h.top
    have hx := hx.mono e0
    unfold fldR at hm
    by_cases ec : x.c = cn
    · rw [if_pos ec] at hm
      cases el : x.fs.lookup f with
      | none => rw [el] at hm; exact hm.elim
      | some y =>
        rw [el] at hm
        rcases hx with ⟨hf, _⟩ | ⟨dd, fsV, h1, h2, h3⟩
        · rw [hf] at el; cases el
        · obtain ⟨w, w1, w2⟩ := lookup_fs h3 el
          exact ⟨hv, by rw [ec, hC], dd, fsV, w, h1, h.base.sh _ _ h2, w1, hm w H1 ⟨S, h.pop.push w2⟩⟩
    · rw [if_neg ec] at hm; exact hm.elim
end
end Gv

set_option Elab.async false
set_option linter.all false
set_option maxRecDepth 100000
set_option maxHeartbeats 2000000
/-! Gv: steps forward, data of any kind -/
namespace Gv
open PySem L2

/-! ### steps -/
section
variable {K : PySem.W.Frag} {ρ lam α β γ : Type} {X : Fx ρ} {Γ : List (Option Tm)} {g : Gh} {H : Hp} {σ : St} {τ : List (V × Tm)} {v x y : V} {t u z : Tm} {i : Nat} {ta tb tc te : TE} {r : R2} {Q : VK} {N : α → Prop} {T : ρ → Prop} {B C : lam → Prop} {E : Er → Prop}
theorem f_o2m {m : R γ} {zz : γ → Tm} {f : γ → O ρ lam α} (ho : O2M K Γ r t u m zz) (hA : At K g Γ σ ((y, u) :: (x, t) :: τ) H) (hm : Out (bindR m f) N T B C E) (k : ∀ a v H', At K g Γ σ ((v, zz a) :: τ) H' → Out (f a) N T B C E → Q v H') : r x y H Q :=
  ho g σ τ H x y Q E hA (hm.bindR.imp (fun a q v H' h' => k a v H' h' q) fun _ q => q)
theorem f_o1m {r : V → Hp → VK → Prop} {m : R γ} {zz : γ → Tm} {f : γ → O ρ lam α} (ho : O1M K Γ r t m zz) (hA : At K g Γ σ ((x, t) :: τ) H) (hm : Out (bindR m f) N T B C E) (k : ∀ a v H', At K g Γ σ ((v, zz a) :: τ) H' → Out (f a) N T B C E → Q v H') : r x H Q :=
  ho g σ τ H x Q E hA (hm.bindR.imp (fun a q v H' h' => k a v H' h' q) fun _ q => q)
theorem f_popm {e : γ → VP} {xs : List γ} {oa : Option Addr} {f : γ × List γ → O ρ lam α} (hg : Γ[i]? = some (some (.own oa (.lst (xs.map e))))) (hA : At K g Γ σ τ H) (hm : Out (bindR (popR xs) f) N T B C E)
    (k : ∀ r v H', At K g (Γ.set i (some (.own oa (.lst (r.2.map e))))) σ ((v, .dat (e r.1)) :: τ) H' → Out (f r) N T B C E → Q v H') : tBM0 K "list" rPop (tVar i) σ H Q :=
  x_pop hg hA (hm.bindR.imp (fun a q v H' h' => k a v H' h' q) fun _ q => q)
theorem bj_go {n : α → List (Option Tm)} {b c : lam → List (Option Tm)} {m : O ρ lam α} {ts : TS} {D : Ends} (hA : At K g Γ σ [] H) (hm : Out m (NxW K g n D.nx) (RtW K g X D.rt) (NxW K g b D.bk) (NxW K g c D.ct) (ErW K g X)) (h : BJ K X Γ ts m n b c) : ts D σ H := h g σ H D hA hm
theorem f_setgo {n : α → List (Option Tm)} {b c : lam → List (Option Tm)} {m : O ρ lam α} {us : TS} {D : Ends} (hA : At K g Γ σ [(v, t)] H) (hn : ∀ j, t ≠ .als j) (hi : Γ[i]?.isSome = true) (hm : Out m (NxW K g n D.nx) (RtW K g X D.rt) (NxW K g b D.bk) (NxW K g c D.ct) (ErW K g X)) (h : BJ K X (Γ.set i (some t)) us m n b c) : gName i v σ H (us D) :=
  h g _ H D (hA.set1 hn hi) hm
theorem f_setlt {n : α → List (Option Tm)} {b c : lam → List (Option Tm)} {f : β → O ρ lam α} {e : β} {us : TS} {D : Ends} (tm : β → Tm) (hA : At K g Γ σ [(v, tm e)] H) (hn : ∀ t j, tm t ≠ .als j) (hi : Γ[i]?.isSome = true) (hm : Out (lt e f) (NxW K g n D.nx) (RtW K g X D.rt) (NxW K g b D.bk) (NxW K g c D.ct) (ErW K g X)) (h : ∀ t, BJ K X (Γ.set i (some (tm t))) us (f t) n b c) : gName i v σ H (us D) :=
  h e g _ H D (hA.set1 (hn e) hi) hm
theorem f_dropgo {n : α → List (Option Tm)} {b c : lam → List (Option Tm)} {m : O ρ lam α} {us : TS} {D : Ends} (hA : At K g Γ σ [(v, t)] H) (hm : Out m (NxW K g n D.nx) (RtW K g X D.rt) (NxW K g b D.bk) (NxW K g c D.ct) (ErW K g X)) (h : BJ K X Γ us m n b c) : us D σ H :=
  h g _ H D hA.pop hm
/-- calls, argument by argument -/
theorem x_call1 {sp : Sp} {EW : St → XK} (h : ta σ H fun x H1 => sp [x] H1 Q (EW σ)) : tCallS sp EW (tCons ta tNil) σ H Q := h
theorem x_call2 {sp : Sp} {EW : St → XK} (h : ta σ H fun x H1 => tb σ H1 fun y H2 => sp [x, y] H2 Q (EW σ)) : tCallS sp EW (tCons ta (tCons tb tNil)) σ H Q := h
theorem x_call3 {sp : Sp} {EW : St → XK} (h : ta σ H fun x H1 => tb σ H1 fun y H2 => tc σ H2 fun z H3 => sp [x, y, z] H3 Q (EW σ)) : tCallS sp EW (tCons ta (tCons tb (tCons tc tNil))) σ H Q := h
theorem x_call4 {td : TE} {sp : Sp} {EW : St → XK} (h : ta σ H fun x H1 => tb σ H1 fun y H2 => tc σ H2 fun z H3 => td σ H3 fun w H4 => sp [x, y, z, w] H4 Q (EW σ)) : tCallS sp EW (tCons ta (tCons tb (tCons tc (tCons td tNil)))) σ H Q := h
theorem x_call5 {td te : TE} {sp : Sp} {EW : St → XK} (h : ta σ H fun x H1 => tb σ H1 fun y H2 => tc σ H2 fun z H3 => td σ H3 fun w H4 => te σ H4 fun w2 H5 => sp [x, y, z, w, w2] H5 Q (EW σ)) : tCallS sp EW (tCons ta (tCons tb (tCons tc (tCons td (tCons te tNil))))) σ H Q := h
/-- displays -/
def TupK (Q : VK) (xs : List V) (H : Hp) : Prop := xs.length ≤ sizeLine ∧ ∀ p, H p = none → Q (.ref p) (upd H p (.tup xs))
def LstK (Q : VK) (xs : List V) (H : Hp) : Prop := xs.length ≤ sizeLine ∧ ∀ p, H p = none → Q (.ref p) (upd H p (.lst xs))
theorem x_tup {ta : TA} (h : ta σ H fun xs H1 => TupK Q xs H1) : tTup ta σ H Q := h
theorem x_lst {ta : TA} (h : ta σ H fun xs H1 => LstK Q xs H1) : tLst ta σ H Q := h
theorem x_cons {tr : TA} {Q : List V → Hp → Prop} (h : ta σ H fun x H1 => tr σ H1 fun xs H2 => Q (x :: xs) H2) : tCons ta tr σ H Q := h
theorem x_nil {Q : List V → Hp → Prop} (h : Q [] H) : tNil σ H Q := h
theorem f_tup {vs : List V} (ps : List VP) (hA : At K g Γ σ ((vs.zip (ps.map Tm.dat)).reverse ++ τ) H) (hl : vs.length = ps.length) (hz : ps.length ≤ 100) (k : ∀ v H', At K g Γ σ ((v, .dat (rT ps)) :: τ) H' → Q v H') : TupK Q vs H := by
  obtain ⟨S, h⟩ := hA
  obtain ⟨d, h2⟩ := h.datas hl
  exact ⟨by rw [hl]; exact Nat.le_trans hz (by decide), fun a ha => k _ _ (h2.newT ha d)⟩
theorem f_lst {vs : List V} (ps : List VP) (hA : At K g Γ σ ((vs.zip (ps.map Tm.dat)).reverse ++ τ) H) (hl : vs.length = ps.length) (hz : ps.length ≤ 100) (k : ∀ v H', At K g Γ σ ((v, .own none (.lst ps)) :: τ) H' → Q v H') : LstK Q vs H := by
  obtain ⟨S, h⟩ := hA
  obtain ⟨d, h2⟩ := h.datas hl
  exact ⟨by rw [hl]; exact Nat.le_trans hz (by decide), fun a ha => k _ _ ⟨S, h2.fresh ha ⟨vs, rfl, d⟩⟩⟩
/-- tests -/
theorem x_not {tt : TT} {Q : Bool → Hp → Prop} (h : tt σ H fun c H1 => Q (!c) H1) : tNot tt σ H Q := h
theorem x_orT {tt uu : TT} {Q : Bool → Hp → Prop} (h : tt σ H fun c H1 => if c = true then Q true H1 else uu σ H1 Q) : tOr tt uu σ H Q := h
theorem x_andT {tt uu : TT} {Q : Bool → Hp → Prop} (h : tt σ H fun c H1 => if c = true then uu σ H1 Q else Q false H1) : tAnd tt uu σ H Q := h
theorem x_orV (h : ta σ H fun x H1 => ∃ c, x = .bl c ∧ if c = true then Q (.bl true) H1 else tb σ H1 Q) : tOrV ta tb σ H Q := h
theorem x_andV (h : ta σ H fun x H1 => ∃ c, x = .bl c ∧ if c = true then tb σ H1 Q else Q (.bl false) H1) : tAndV ta tb σ H Q := h
theorem x_notV (h : ta σ H fun x H1 => ∃ c, x = .bl c ∧ Q (.bl (!c)) H1) : tNotV ta σ H Q := h
theorem f_tst {b : Bool} {P : Bool → Hp → Prop} (hA : At K g Γ σ ((v, .dat (eB b)) :: τ) H) (k : At K g Γ σ τ H → P b H) : ∃ c, v = .bl c ∧ P c H := by
  obtain ⟨S, h⟩ := hA
  exact ⟨b, h.top.b, k ⟨S, h.pop⟩⟩
theorem f_pick {b : Bool} {m1 m2 : O ρ lam α} {P1 P2 : Prop} (hm : Out (if b then m1 else m2) N T B C E) (h1 : Out m1 N T B C E → P1) (h2 : Out m2 N T B C E → P2) : if b = true then P1 else P2 := by
  cases b with
  | true => exact h1 hm
  | false => exact h2 hm
theorem f_ifS {b : Bool} {m1 m2 : O ρ lam α} {t u z : TS} {D : Ends} (hm : Out (if b then m1 else m2) N T B C E) (h1 : Out m1 N T B C E → tSeq t z D σ H) (h2 : Out m2 N T B C E → tSeq u z D σ H) : if b = true then t { D with nx := z D } σ H else u { D with nx := z D } σ H := by
  cases b with
  | true => exact h1 hm
  | false => exact h2 hm
/-- ways that meet again: a value, a test -/
theorem f_join {m : O ρ lam γ} {f : γ → O ρ lam α} {P : Prop} (Gj : γ → List (Option Tm)) (zj : γ → Tm) (hm : Out (m.bind f) N T B C E) (k : ∀ c v H', At K g (Gj c) σ ((v, zj c) :: τ) H' → Out (f c) N T B C E → Q v H')
    (h : Out m (fun c => ∀ v H', At K g (Gj c) σ ((v, zj c) :: τ) H' → Q v H') T B C E → P) : P := h (hm.bind.imp (fun c q v H' h' => k c v H' h' q) (fun _ q => q) (fun _ q => q) (fun _ q => q) fun _ q => q)
theorem f_joinB {m : O ρ lam γ} {f : γ → O ρ lam α} {P : Prop} {Q : Bool → Hp → Prop} (Gj : γ → List (Option Tm)) (bj : γ → Bool) (hm : Out (m.bind f) N T B C E) (k : ∀ c H', At K g (Gj c) σ τ H' → Out (f c) N T B C E → Q (bj c) H')
    (h : Out m (fun c => ∀ H', At K g (Gj c) σ τ H' → Q (bj c) H') T B C E → P) : P := h (hm.bind.imp (fun c q H' h' => k c H' h' q) (fun _ q => q) (fun _ q => q) (fun _ q => q) fun _ q => q)
theorem f_lc2 {sT : Type} {e : β → VP} {js vs : List Nat} {ps : β → List VP} {enc : γ → VP} {wi : TI} {tg : TG} {tt : TT} {m : R (List β)} {f : sT → β → R (sT × Option γ)} {F : sT × List γ → O ρ lam α} (Gl : sT → List (Option Tm)) (s0 : sT) (hi : ITM K (Gl s0) wi m e) (ht : ∀ b, TJ K tg (e b) js (ps b)) (nd : js.Nodup)
    (hn : ∀ s, ∀ j ∈ js, (Gl s)[j]? = some none) (hv : ∀ s, ∀ j ∈ vs, (Gl s)[j]? = some none) (hsub : ∀ j ∈ js, j ∈ vs) (hl : LJ K Gl js ps enc tt te f) (hA : At K g (Gl s0) σ τ H)
    (hm : Out (bindR (bindR m fun xs => lcR f xs s0 []) F) N T B C E) (k : ∀ r v H', At K g (Gl r.1) σ ((v, oL enc r.2) :: τ) H' → Out (F r) N T B C E → Q v H') : tLc wi tg tt te vs σ H Q :=
  f_lc Gl s0 hi ht nd hn hv hsub hl hA (hm.bindR.imp (fun r q v H' h' => k r v H' h' q) fun _ q => q)
theorem At.box {p q : VP} (h : At K g Γ σ ((v, .dat p) :: τ) H) (hb : ∀ v S, Hd K p v S → Hd K q v S) : At K g Γ σ ((v, .dat q) :: τ) H := by
  obtain ⟨S, h⟩ := h
  exact ⟨S, h.pop.push (hb v S h.top)⟩
end

/-! ### data as PyData -/
def dN (_ : Unit) : PyData := .none
def dL {α : Type} (d : α → PyData) (xs : List α) : PyData := .list (xs.map d)
def dT {α : Type} (d : α → PyData) (xs : List α) : PyData := .tuple (xs.map d)
def dO {α : Type} (d : α → PyData) : Option α → PyData
  | none => .none
  | some a => d a
def dP1 {α : Type} (d : α → PyData) (x : α) : PyData := .tuple [d x]
def dP2 {α β : Type} (d : α → PyData) (f : β → PyData) (x : α × β) : PyData := .tuple [d x.1, f x.2]
def dP3 {α β γ : Type} (d : α → PyData) (f : β → PyData) (h : γ → PyData) (x : α × β × γ) : PyData := .tuple [d x.1, f x.2.1, h x.2.2]
def dP4 {α β γ δ : Type} (d : α → PyData) (f : β → PyData) (h : γ → PyData) (k : δ → PyData) (x : α × β × γ × δ) : PyData := .tuple [d x.1, f x.2.1, h x.2.2.1, k x.2.2.2]
/-- a kind's values are data -/
def Bx {α : Type} (e : α → VP) (d : α → PyData) : Prop := ∀ K x v S, Hd K (e x) v S → Dp K S v (d x)
section
variable {K : PySem.W.Frag} {S S' H : Hp} {α β γ δ : Type}
mutual
theorem Dp.mono (e : Same S S') : ∀ {d : PyData} {v : V}, Dp K S v d → Dp K S' v d
  | .none, _, h => by cases h; exact .non
  | .bool _, _, h => by cases h; exact .bl _
  | .int _, _, h => by cases h; exact .int _
  | .str _, _, h => by cases h; exact .str _
  | .list ds, _, h => by
    cases h with
    | lst hs ha => exact .lst (e.seq hs) (DpAll.mono e ha)
  | .tuple ds, _, h => by
    cases h with
    | tup hs ha => exact .tup (same_t e hs) (DpAll.mono e ha)
  | .dict _, _, h => by cases h
theorem DpAll.mono (e : Same S S') : ∀ {ds : List PyData} {vs : List V}, DpAll K S vs ds → DpAll K S' vs ds
  | [], _, h => by cases h; exact .nil
  | d :: ds, _, h => by
    cases h with
    | cons h1 h2 => exact .cons (Dp.mono e h1) (DpAll.mono e h2)
end
theorem bx_i : Bx eI PyData.int := fun K x v S h => by rw [h.i]; exact .int x
theorem bx_b : Bx eB PyData.bool := fun K x v S h => by rw [h.b]; exact .bl x
theorem bx_s : Bx eS PyData.str := fun K x v S h => by rw [h.s]; exact .str x
theorem bx_n : Bx eU dN := fun K x v S h => by have e : v = .non := Hd.n h; rw [e]; exact .non
theorem bx_d : Bx eD id := fun K x v S h => by
  obtain ⟨S0, e, q⟩ := h
  exact Dp.mono e q
theorem bx_o {e : α → VP} {d : α → PyData} (h : Bx e d) : Bx (eO e) (dO d) := fun K x v S q => by
  cases x with
  | none => have e : v = .non := Hd.n q; rw [e]; exact .non
  | some a => exact h K a v S q
theorem bx_all {e : α → VP} {d : α → PyData} (h : Bx e d) : ∀ {xs : List α} {vs : List V}, Hds K S (xs.map e) vs → DpAll K S vs (xs.map d)
  | [], _, .nil => .nil
  | x :: xs, _, .cons r t => .cons (h K x _ S r) (bx_all h t)
theorem bx_l {e : α → VP} {d : α → PyData} (h : Bx e d) : Bx (eL e) (dL d) := fun K x v S q => by
  obtain ⟨a, vs, rfl, h2, h3⟩ := Hd.l q
  exact .lst h2 (bx_all h h3)
theorem bx_t {e : α → VP} {d : α → PyData} (h : Bx e d) : Bx (eT e) (dT d) := fun K x v S q => by
  obtain ⟨a, vs, rfl, h2, h3⟩ := Hd.t q
  exact .tup h2 (bx_all h h3)
theorem bx_p1 {e : α → VP} {d : α → PyData} (h : Bx e d) : Bx (eP1 e) (dP1 d) := fun K x v S q => by
  obtain ⟨a, vs, rfl, h2, h3⟩ := Hd.t q
  cases h3 with
  | cons r1 t => cases t; exact .tup h2 (.cons (h K _ _ S r1) .nil)
theorem bx_p2 {e : α → VP} {d : α → PyData} {e2 : β → VP} {d2 : β → PyData} (h : Bx e d) (k : Bx e2 d2) : Bx (eP2 e e2) (dP2 d d2) := fun K x v S q => by
  obtain ⟨a, vs, rfl, h2, h3⟩ := Hd.t q
  cases h3 with
  | cons r1 t => cases t with
    | cons r2 t => cases t; exact .tup h2 (.cons (h K _ _ S r1) (.cons (k K _ _ S r2) .nil))
theorem bx_p3 {e : α → VP} {d : α → PyData} {e2 : β → VP} {d2 : β → PyData} {e3 : γ → VP} {d3 : γ → PyData} (h : Bx e d) (k : Bx e2 d2) (l : Bx e3 d3) : Bx (eP3 e e2 e3) (dP3 d d2 d3) := fun K x v S q => by
  obtain ⟨a, vs, rfl, h2, h3⟩ := Hd.t q
  cases h3 with
  | cons r1 t => cases t with
    | cons r2 t => cases t with
      | cons r3 t => cases t; exact .tup h2 (.cons (h K _ _ S r1) (.cons (k K _ _ S r2) (.cons (l K _ _ S r3) .nil)))
theorem bx_p4 {e : α → VP} {d : α → PyData} {e2 : β → VP} {d2 : β → PyData} {e3 : γ → VP} {d3 : γ → PyData} {e4 : δ → VP} {d4 : δ → PyData} (h : Bx e d) (k : Bx e2 d2) (l : Bx e3 d3) (m : Bx e4 d4) : Bx (eP4 e e2 e3 e4) (dP4 d d2 d3 d4) := fun K x v S q => by
  obtain ⟨a, vs, rfl, h2, h3⟩ := Hd.t q
  cases h3 with
  | cons r1 t => cases t with
    | cons r2 t => cases t with
      | cons r3 t => cases t with
        | cons r4 t => cases t; exact .tup h2 (.cons (h K _ _ S r1) (.cons (k K _ _ S r2) (.cons (l K _ _ S r3) (.cons (m K _ _ S r4) .nil))))
theorem Bx.hd {e : α → VP} {d : α → PyData} (h : Bx e d) {x : α} : ∀ v S, Hd K (e x) v S → Hd K (eD (d x)) v S := fun v S q => .of (h K x v S q)
theorem ev_box {Γ : List (Option Tm)} {te : TE} {e : α → VP} {d : α → PyData} {x : α} (h : Bx e d) (he : EV K Γ te (.dat (e x))) : EV K Γ te (.dat (eD (d x))) := fun g σ τ H Q hA k => he g σ τ H Q hA fun v H' h' => k v H' (h'.box h.hd)
/-! ### == of data -/
/-- == tells equality of a kind's values; they can be compared -/
structure EqK (d : α → PyData) (n : Nat) : Prop where
  eq : ∀ x y, PyData.eqv (d x) (d y) = true ↔ x = y
  lay : ∀ x, PyData.canLay0 (d x) = true
  dep : ∀ x, PyData.depth (d x) ≤ n
end
end Gv

set_option Elab.async false
set_option linter.all false
set_option maxRecDepth 100000
set_option maxHeartbeats 2000000
/-! Gv: ==, isinstance, data of any kind -/
namespace Gv
open PySem L2
section
variable {K : PySem.W.Frag} {Γ : List (Option Tm)} {α β γ δ : Type} {t u : Tm} {n m : Nat}
theorem eqvAll_c (x y : PyData) (xs ys : List PyData) : PyData.eqvAll (x :: xs) (y :: ys) = (PyData.eqv x y && PyData.eqvAll xs ys) := by rw [PyData.eqvAll]
theorem eqvAll_n : PyData.eqvAll [] [] = true := by rw [PyData.eqvAll]
theorem layAll_c (x : PyData) (xs : List PyData) : PyData.canLayAll0 (x :: xs) = (PyData.canLay0 x && PyData.canLayAll0 xs) := by rw [PyData.canLayAll0]
theorem layAll_n : PyData.canLayAll0 [] = true := by rw [PyData.canLayAll0]
theorem depAll_c (x : PyData) (xs : List PyData) : PyData.depthAll (x :: xs) = max (PyData.depth x) (PyData.depthAll xs) := by rw [PyData.depthAll]
theorem depAll_n : PyData.depthAll [] = 0 := by rw [PyData.depthAll]
structure NoN (d : α → PyData) : Prop where
  l : ∀ x, PyData.eqv .none (d x) = false
  r : ∀ x, PyData.eqv (d x) .none = false
theorem non_i : NoN PyData.int := ⟨fun x => by rw [PyData.eqv], fun x => by rw [PyData.eqv]⟩
theorem non_b : NoN PyData.bool := ⟨fun x => by rw [PyData.eqv], fun x => by rw [PyData.eqv]⟩
theorem non_s : NoN PyData.str := ⟨fun x => by rw [PyData.eqv], fun x => by rw [PyData.eqv]⟩
theorem non_l {d : α → PyData} : NoN (dL d) := ⟨fun x => by rw [dL, PyData.eqv], fun x => by rw [dL, PyData.eqv]⟩
theorem non_t {f : α → List PyData} : NoN (fun x => PyData.tuple (f x)) := ⟨fun x => by rw [PyData.eqv], fun x => by rw [PyData.eqv]⟩
theorem eq_i : EqK PyData.int 0 := ⟨fun x y => by rw [PyData.eqv]; exact beq_iff_eq, fun x => by rw [PyData.canLay0], fun x => by rw [PyData.depth]; exact Nat.le_refl 0⟩
theorem eq_b : EqK PyData.bool 0 := ⟨fun x y => by rw [PyData.eqv]; exact beq_iff_eq, fun x => by rw [PyData.canLay0], fun x => by rw [PyData.depth]; exact Nat.le_refl 0⟩
theorem eq_n : EqK dN 0 := ⟨fun x y => by rw [dN, PyData.eqv]; simp, fun x => by rw [dN, PyData.canLay0], fun x => by rw [dN, PyData.depth]; exact Nat.le_refl 0⟩
theorem eq_o {d : α → PyData} (h : EqK d n) (k : NoN d) : EqK (dO d) n := ⟨fun x y => by
  cases x with
  | none =>
    cases y with
    | none => simp [dO, PyData.eqv]
    | some b => simp [dO, k.l b]
  | some a =>
    cases y with
    | none => simp [dO, k.r a]
    | some b => simp [dO, h.eq a b], fun x => by
  cases x with
  | none => rw [dO, PyData.canLay0]
  | some a => exact h.lay a, fun x => by
  cases x with
  | none => rw [dO, PyData.depth]; exact Nat.zero_le n
  | some a => exact h.dep a⟩
theorem eq_all {d : α → PyData} (h : EqK d n) : (∀ xs ys : List α, PyData.eqvAll (xs.map d) (ys.map d) = true ↔ xs = ys) ∧ (∀ xs : List α, PyData.canLayAll0 (xs.map d) = true) ∧ ∀ xs : List α, PyData.depthAll (xs.map d) ≤ n := by
  refine ⟨fun xs => ?_, fun xs => ?_, fun xs => ?_⟩
  · induction xs with
    | nil =>
      intro ys
      cases ys with
      | nil => simp [eqvAll_n]
      | cons y ys => simp [PyData.eqvAll]
    | cons x xs ih =>
      intro ys
      cases ys with
      | nil => simp [PyData.eqvAll]
      | cons y ys => simp [eqvAll_c, h.eq x y, ih ys]
  · induction xs with
    | nil => exact layAll_n
    | cons x xs ih => rw [List.map_cons, layAll_c, h.lay x, ih]; rfl
  · induction xs with
    | nil => rw [List.map_nil, depAll_n]; exact Nat.zero_le n
    | cons x xs ih => rw [List.map_cons, depAll_c]; exact Nat.max_le.mpr ⟨h.dep x, ih⟩
theorem eq_l {d : α → PyData} (h : EqK d n) : EqK (dL d) (n + 1) := ⟨fun x y => by rw [dL, dL, PyData.eqv]; exact (eq_all h).1 x y, fun x => by rw [dL, PyData.canLay0]; exact (eq_all h).2.1 x, fun x => by rw [dL, PyData.depth]; exact Nat.succ_le_succ ((eq_all h).2.2 x)⟩
theorem eq_t {d : α → PyData} (h : EqK d n) : EqK (dT d) (n + 1) := ⟨fun x y => by rw [dT, dT, PyData.eqv]; exact (eq_all h).1 x y, fun x => by rw [dT, PyData.canLay0]; exact (eq_all h).2.1 x, fun x => by rw [dT, PyData.depth]; exact Nat.succ_le_succ ((eq_all h).2.2 x)⟩
theorem EqK.up {d : α → PyData} (h : EqK d n) (k : n ≤ m) : EqK d m := ⟨h.eq, h.lay, fun x => Nat.le_trans (h.dep x) k⟩
theorem eq_p1 {d : α → PyData} (h : EqK d n) : EqK (dP1 d) (n + 1) := ⟨fun x y => by simp [dP1, PyData.eqv, eqvAll_c, eqvAll_n, h.eq], fun x => by simp [dP1, PyData.canLay0, layAll_c, layAll_n, h.lay], fun x => by
  simp only [dP1, PyData.depth, depAll_c, depAll_n]; have := h.dep x; omega⟩
theorem eq_p2 {d : α → PyData} {d2 : β → PyData} (h : EqK d n) (k : EqK d2 m) : EqK (dP2 d d2) (n + m + 1) := ⟨fun x y => by
  obtain ⟨a, b⟩ := x
  obtain ⟨a', b'⟩ := y
  simp [dP2, PyData.eqv, eqvAll_c, eqvAll_n, h.eq, k.eq], fun x => by simp [dP2, PyData.canLay0, layAll_c, layAll_n, h.lay, k.lay], fun x => by
  simp only [dP2, PyData.depth, depAll_c, depAll_n]; have := h.dep x.1; have := k.dep x.2; omega⟩
theorem eq_p3 {d : α → PyData} {d2 : β → PyData} {d3 : γ → PyData} {l : Nat} (h : EqK d n) (k : EqK d2 m) (o : EqK d3 l) : EqK (dP3 d d2 d3) (n + m + l + 1) := ⟨fun x y => by
  obtain ⟨a, b, c⟩ := x
  obtain ⟨a', b', c'⟩ := y
  simp [dP3, PyData.eqv, eqvAll_c, eqvAll_n, h.eq, k.eq, o.eq], fun x => by simp [dP3, PyData.canLay0, layAll_c, layAll_n, h.lay, k.lay, o.lay], fun x => by
  simp only [dP3, PyData.depth, depAll_c, depAll_n]; have := h.dep x.1; have := k.dep x.2.1; have := o.dep x.2.2; omega⟩
theorem EqK.shaped {d : α → PyData} (h : EqK d n) (hn : n ≤ 64) (x : α) : SeqAt.shaped (d x) = true := by
  unfold SeqAt.shaped
  rw [h.lay x, decide_eq_true (Nat.le_trans (h.dep x) hn)]
  rfl
/-- what stands on the stack is the datum d -/
def DpT (K : PySem.W.Frag) (G : List (Option Tm)) (t : Tm) (d : PyData) : Prop := ∀ g S σ τ H v, AtS K g S G σ τ H → (v, t) ∈ τ → Dp K H v d
theorem DpT.dat {e : α → VP} {d : α → PyData} {x : α} (h : Bx e d) : DpT K Γ (.dat (e x)) (d x) := fun g S σ τ H v hA hm => Dp.mono hA.base.sh (h K x v S (hA.all _ (List.mem_append_right _ hm)))
theorem DpT.lst {e : α → VP} {d : α → PyData} {xs : List α} (h : Bx e d) (hl : IsL Γ t (xs.map e)) : DpT K Γ t (dL d xs) := fun g S σ τ H v hA hm => by
  obtain ⟨a, vs, rfl, h2, h3⟩ := hA.isL hm hl
  exact .lst h2 (DpAll.mono hA.base.sh (bx_all h h3))
theorem o2_eqD0 {a b : PyData} {c : Bool} (h1 : DpT K Γ t a) (h2 : DpT K Γ u b) (s1 : SeqAt.shaped a = true) (s2 : SeqAt.shaped b = true) (hc : PyData.eqv a b = c) : O2 K Γ (rEqD K) t u (.dat (eB c)) := fun g σ τ H x y Q ⟨S, h⟩ k =>
  ⟨a, b, h1 g S σ _ H x h (List.mem_cons_of_mem _ List.mem_cons_self), h2 g S σ _ H y h List.mem_cons_self, s1, s2, by rw [hc]; exact k _ H ⟨S, h.pop.pop.push (.of rfl)⟩⟩
theorem o2_neD0 {a b : PyData} {c : Bool} (h1 : DpT K Γ t a) (h2 : DpT K Γ u b) (s1 : SeqAt.shaped a = true) (s2 : SeqAt.shaped b = true) (hc : PyData.eqv a b = c) : O2 K Γ (rNeD K) t u (.dat (eB (!c))) := fun g σ τ H x y Q ⟨S, h⟩ k =>
  ⟨a, b, h1 g S σ _ H x h (List.mem_cons_of_mem _ List.mem_cons_self), h2 g S σ _ H y h List.mem_cons_self, s1, s2, by rw [hc]; exact k _ H ⟨S, h.pop.pop.push (.of rfl)⟩⟩
theorem EqK.dec [DecidableEq α] {d : α → PyData} (h : EqK d n) (x y : α) : PyData.eqv (d x) (d y) = decide (x = y) := by
  by_cases e : x = y
  · rw [decide_eq_true e]; exact (h.eq x y).mpr e
  · rw [decide_eq_false e]
    cases q : PyData.eqv (d x) (d y) with
    | false => rfl
    | true => exact absurd ((h.eq x y).mp q) e
theorem o2_eqD [DecidableEq α] {d : α → PyData} {x y : α} (h1 : DpT K Γ t (d x)) (h2 : DpT K Γ u (d y)) (h : EqK d n) (hn : n ≤ 64 := by decide) : O2 K Γ (rEqD K) t u (.dat (eB (decide (x = y)))) :=
  o2_eqD0 h1 h2 (h.shaped hn x) (h.shaped hn y) (h.dec x y)
theorem o2_neD [DecidableEq α] {d : α → PyData} {x y : α} (h1 : DpT K Γ t (d x)) (h2 : DpT K Γ u (d y)) (h : EqK d n) (hn : n ≤ 64 := by decide) : O2 K Γ (rNeD K) t u (.dat (eB (!decide (x = y)))) :=
  o2_neD0 h1 h2 (h.shaped hn x) (h.shaped hn y) (h.dec x y)
/-- with texts inside: they must be texts of proper signs -/
def eqR (a b : PyData) : R Bool := gd (SeqAt.shaped a && SeqAt.shaped b) (PyData.eqv a b)
theorem o2_eqDM {a b : PyData} (h1 : DpT K Γ t a) (h2 : DpT K Γ u b) : O2M K Γ (rEqD K) t u (eqR a b) (fun c => .dat (eB c)) := At.part2 fun h => o2_eqD0 h1 h2 (Bool.and_eq_true_iff.mp h).1 (Bool.and_eq_true_iff.mp h).2 rfl
theorem o2_neDM {a b : PyData} (h1 : DpT K Γ t a) (h2 : DpT K Γ u b) : O2M K Γ (rNeD K) t u (eqR a b) (fun c => .dat (eB (!c))) := At.part2 fun h => o2_neD0 h1 h2 (Bool.and_eq_true_iff.mp h).1 (Bool.and_eq_true_iff.mp h).2 rfl

/-! ### isinstance -/
def tyD : PyData → String
  | .none => "NoneType" | .bool _ => "bool" | .int _ => "int" | .str _ => "str" | .list _ => "list" | .tuple _ => "tuple" | .dict _ => "dict"
def isA (T : String) (d : PyData) : Bool := match T, d with
  | "int", .int _ => true | "int", .bool _ => true | "bool", .bool _ => true | "str", .str _ => true | "list", .list _ => true | "tuple", .tuple _ => true | _, _ => false
theorem Dp.tyx {H : Hp} {v : V} {d : PyData} (h : Dp K H v d) : TyX K H v (.type (tyD d)) := by
  cases h with
  | non => exact .base .non
  | bl b => exact .base (.bl b)
  | int i => exact .base (.int i)
  | str x => exact .base (.str x)
  | lst hs _ =>
    rcases hs with (h | ⟨o, h⟩) | ⟨o, its, n, h1, h2, _⟩
    · exact .base (.lst h)
    · exact .base (.frz h)
    · exact .kList h1 h2
  | tup hs _ =>
    rcases hs with (h | ⟨o, h⟩) | ⟨o, its, n, h1, h2, _⟩
    · exact .base (.tup h)
    · exact .fTuple h
    · exact .kTuple h1 h2
/-- the built-in classes that are asked for -/
inductive AskT : String → Prop
  | int : AskT "int" | bool : AskT "bool" | str : AskT "str" | list : AskT "list" | tuple : AskT "tuple"
theorem kit_isA {T : String} (a : AskT T) {H : Hp} {v : V} {d : PyData} (h : Dp K H v d) : PySem.W.kitOne K (.type (tyD d)) (.type T) = some (isA T d) := by
  have go : ∀ (s T : String) (r : Bool), kitB s T = some r → PySem.W.kitOne K (.type s) (.type T) = some r := fun s T r h => kit_ty h
  cases a <;> cases h <;> first
    | exact go "bool" _ true (by decide +kernel) | exact go "bool" _ false (by decide +kernel) | exact go "NoneType" _ false (by decide +kernel)
    | exact go "int" _ true (by decide +kernel) | exact go "int" _ false (by decide +kernel) | exact go "str" _ true (by decide +kernel) | exact go "str" _ false (by decide +kernel)
    | exact go "list" _ true (by decide +kernel) | exact go "list" _ false (by decide +kernel) | exact go "tuple" _ true (by decide +kernel) | exact go "tuple" _ false (by decide +kernel)
theorem o2_isi {T : String} {d : PyData} (a : AskT T) (h1 : DpT K Γ t d) : O2 K Γ (fun x y => rIsi K [x, y]) t (.dat (eV (.ty T))) (.dat (eB (isA T d))) := fun g σ τ H x y Q ⟨S, h⟩ k => by
  have hd := h1 g S σ _ H x h (List.mem_cons_of_mem _ List.mem_cons_self)
  have ey : y = .ty T := Hd.v h.top
  subst ey
  exact ⟨x, .ty T, .type (tyD d), .type T, isA T d, rfl, .ty T, (Dp.tyx hd), kit_isA a hd, k _ H ⟨S, h.pop.pop.push (.of rfl)⟩⟩
theorem ev_isi {ta : TE} {T : String} {d : PyData} (a : AskT T) (he : EV K Γ ta t) (h1 : DpT K Γ t d) : EV K Γ (tCB (rIsi K) (tCons ta (tCons (tC (.ty T)) tNil))) (.dat (eB (isA T d))) := ev_cb2 he ev_cv (o2_isi a h1)
theorem f_isiT {T1 T2 : String} {d : PyData} {g : Gh} {σ : St} {τ : List (V × Tm)} {H : Hp} {x : V} {Q : VK} (a1 : AskT T1) (a2 : AskT T2) (h1 : DpT K Γ t d) (hA : At K g Γ σ ((x, t) :: τ) H) (k : ∀ v H', At K g Γ σ ((v, .dat (eB (isA T1 d || isA T2 d))) :: τ) H' → Q v H') :
    tCons (tTup (tCons (tC (.ty T1)) (tCons (tC (.ty T2)) tNil))) tNil σ H (fun xs H2 => rIsiT K (x :: xs) H2 Q) := by
  obtain ⟨S, h⟩ := hA
  refine ⟨by show 2 ≤ sizeLine; decide, fun p hp => ?_⟩
  have h2 := h.lay (o := .tup [V.ty T1, V.ty T2]) hp
  have hd := h1 g _ σ _ _ x h2 List.mem_cons_self
  refine ⟨x, p, [.ty T1, .ty T2], .type (tyD d), [.type T1, .type T2], isA T1 d || isA T2 d, rfl, upd_same, .cons (.ty T1) (.cons (.ty T2) .nil), (Dp.tyx hd), ?_, k _ _ ⟨_, h2.pop.push (.of rfl)⟩⟩
  refine kitAny_cons (kit_isA a1 hd) (fun e => ?_) (fun e => by rw [e]; rfl)
  refine kitAny_cons (kit_isA a2 hd) (fun e2 => ?_) (fun e2 => by rw [e2, Bool.or_true])
  rw [e, e2]
  rfl
theorem ev_isiT {ta : TE} {T1 T2 : String} {d : PyData} (a1 : AskT T1) (a2 : AskT T2) (he : EV K Γ ta t) (h1 : DpT K Γ t d) : EV K Γ (tCB (rIsiT K) (tCons ta (tCons (tTup (tCons (tC (.ty T1)) (tCons (tC (.ty T2)) tNil))) tNil))) (.dat (eB (isA T1 d || isA T2 d))) :=
  fun g σ τ H Q hA k => he g σ τ H _ hA fun x H1 hA1 => f_isiT a1 a2 h1 hA1 k

/-! ### a datum of any kind, asked -/
def intD : PyData → R Int
  | .int i => .nx i
  | _ => .stuck
def lenD : PyData → R Int
  | .list xs => .nx (xs.length : Int)
  | .tuple xs => .nx (xs.length : Int)
  | _ => .stuck
def itemsD : PyData → R (List PyData)
  | .list xs => .nx xs
  | .tuple xs => .nx xs
  | _ => .stuck
def atD (d : PyData) (i : Int) : R PyData := bindR (itemsD d) fun xs => idx xs i
theorem hds_eD {S : Hp} : ∀ {vs : List V} {ds : List PyData}, DpAll K S vs ds → Hds K S (ds.map eD) vs
  | _, _, .nil => .nil
  | _, _, .cons h1 h2 => .cons (.of h1) (hds_eD h2)
theorem eD_list {ds : List PyData} {v : V} {S : Hp} (h : Hd K (eD (.list ds)) v S) : Hd K (eL eD ds) v S := by
  obtain ⟨S0, e, q⟩ := h
  have q : Dp K S0 v (.list ds) := q
  cases q with
  | lst hs ha => exact ⟨S0, e, _, _, rfl, hs, hds_eD ha⟩
theorem eD_tup {ds : List PyData} {v : V} {S : Hp} (h : Hd K (eD (.tuple ds)) v S) : Hd K (eT eD ds) v S := by
  obtain ⟨S0, e, q⟩ := h
  have q : Dp K S0 v (.tuple ds) := q
  cases q with
  | tup hs ha => exact ⟨S0, e, _, _, rfl, hs, hds_eD ha⟩
theorem eD_int {i : Int} {v : V} {S : Hp} (h : Hd K (eD (.int i)) v S) : Hd K (eI i) v S := by
  obtain ⟨S0, e, q⟩ := h
  have q : Dp K S0 v (.int i) := q
  cases q
  exact .of rfl
section
variable {ρ lam : Type} {g : Gh} {σ : St} {τ : List (V × Tm)} {H : Hp} {v : V} {P : Prop} {N : α → Prop} {T : ρ → Prop} {B C : lam → Prop} {E : Er → Prop}
/-- the datum on top is an int -/
theorem f_int {d : PyData} {f : Int → O ρ lam α} (hA : At K g Γ σ ((v, .dat (eD d)) :: τ) H) (hm : Out (bindR (intD d) f) N T B C E) (k : ∀ i, At K g Γ σ ((v, .dat (eI i)) :: τ) H → Out (f i) N T B C E → P) : P := by
  cases d with
  | int i => exact k i (hA.box fun v S q => eD_int q) hm
  | _ => exact hm.elim
/-- .. a list or tuple -/
theorem f_items {d : PyData} {f : List PyData → O ρ lam α} (hA : At K g Γ σ ((v, .dat (eD d)) :: τ) H) (hm : Out (bindR (itemsD d) f) N T B C E) (k : ∀ xs, (At K g Γ σ ((v, .dat (eL eD xs)) :: τ) H ∨ At K g Γ σ ((v, .dat (eT eD xs)) :: τ) H) → Out (f xs) N T B C E → P) : P := by
  cases d with
  | list xs => exact k xs (.inl (hA.box fun v S q => eD_list q)) hm
  | tuple xs => exact k xs (.inr (hA.box fun v S q => eD_tup q)) hm
  | _ => exact hm.elim
end
theorem o1_lenD {d : PyData} : O1M K Γ (fun x => rLen K [x]) (.dat (eD d)) (lenD d) (fun i => .dat (eI i)) := fun g σ τ H x Q E hA hm => by
  cases d with
  | list xs =>
    have := o1_lenT (K := K) (Γ := Γ) (t := .dat (eL eD xs)) xs eD (.l .dat)
    exact this g σ τ H x Q (hA.box fun v S q => eD_list q) hm
  | tuple xs =>
    have := o1_lenT (K := K) (Γ := Γ) (t := .dat (eT eD xs)) xs eD .t
    exact this g σ τ H x Q (hA.box fun v S q => eD_tup q) hm
  | _ => exact hm.elim
/-- d[i] of a list or tuple -/
def rIxQ (K : PySem.W.Frag) : R2 := fun x y H Q => rIxL K x y H Q ∨ rIxT K x y H Q
theorem ix_q {X : Cx} : IxR X (rIxQ X.K) := ix_list.or ix_tup
theorem o2_atD {d : PyData} {i : Int} : O2M K Γ (rIxQ K) (.dat (eD d)) (.dat (eI i)) (atD d i) (fun a => .dat (eD a)) := fun g σ τ H x y Q E hA hm => by
  obtain ⟨S, h⟩ := hA
  cases d with
  | list xs =>
    have h2 : At K g Γ σ ((y, .dat (eI i)) :: (x, .dat (eL eD xs)) :: τ) H := ⟨S, (h.pop.pop.push (eD_list h.pop.top)).push h.top⟩
    exact .inl (o2_idxL (K := K) (Γ := Γ) .dat g σ τ H x y Q E h2 hm)
  | tuple xs =>
    have h2 : At K g Γ σ ((y, .dat (eI i)) :: (x, .dat (eT eD xs)) :: τ) H := ⟨S, (h.pop.pop.push (eD_tup h.pop.top)).push h.top⟩
    exact .inr (o2_idxT (K := K) (Γ := Γ) g σ τ H x y Q E h2 hm)
  | _ => exact hm.elim
/-- a loop over a list or tuple -/
def iSeq (K : PySem.W.Frag) (te : TE) : TI := fun σ H Rk => iList K te σ H Rk ∨ iTup K te σ H Rk
theorem pi_seq {X : Cx} {tg l : Expr} {te : TE} (h : PE X l te) : PI X tg l (iSeq X.K te) := ⟨fun pins s σ H Rk I hw => by
  rcases hw with hw | hw
  · exact (pi_list h).run pins s σ H Rk I hw
  · exact (pi_tup h).run pins s σ H Rk I hw⟩
end
end Gv

set_option Elab.async false
set_option linter.all false
set_option maxRecDepth 100000
set_option maxHeartbeats 2000000
/-! Gv: joins, loops over what is told only on the way, unpacking -/
namespace Gv
open PySem L2
theorem bj_assoc {K : PySem.W.Frag} {ρ lam α : Type} {X : Fx ρ} {G : List (Option Tm)} {a b c : TS} {m : O ρ lam α} {n : α → List (Option Tm)} {bb cc : lam → List (Option Tm)} (h : BJ K X G (tSeq a (tSeq b c)) m n bb cc) : BJ K X G (tSeq (tSeq a b) c) m n bb cc := h
section
variable {K : PySem.W.Frag} {ρ lam α β γ : Type} {X : Fx ρ} {Γ : List (Option Tm)} {g : Gh} {H : Hp} {σ : St} {τ : List (V × Tm)} {v x y : V} {t u z : Tm} {i : Nat} {ta tb tc te : TE} {r r' : R2} {Q : VK} {N : α → Prop} {T : ρ → Prop} {B C : lam → Prop} {E : Er → Prop}
/-! ### steps -/
theorem x_chain (h : ta σ H fun x H1 => tb σ H1 fun y H2 => r x y H2 fun z H3 => ∃ k, z = .bl k ∧ (if k = true then tc σ H3 fun w H4 => r' y w H4 Q else Q (.bl false) H3)) : tChain r r' ta tb tc σ H Q := h
theorem f_chain {a b c : Int} {f f' : Int → Int → Bool} (h3 : EV K Γ tc (.dat (eI c))) (hA : At K g Γ σ ((y, .dat (eI b)) :: (x, .dat (eI a)) :: τ) H) (k : ∀ v H', At K g Γ σ ((v, .dat (eB (f a b && f' b c))) :: τ) H' → Q v H') :
    rI0 (fun i j => .bl (f i j)) x y H fun z H3 => ∃ k, z = .bl k ∧ (if k = true then tc σ H3 fun w H4 => rI0 (fun i j => .bl (f' i j)) y w H4 Q else Q (.bl false) H3) := by
  obtain ⟨S, hS⟩ := hA
  refine ⟨a, b, hS.pop.top.i, hS.top.i, f a b, rfl, ?_⟩
  cases e : f a b with
  | true =>
    rw [if_pos rfl]
    refine h3 g σ _ H _ ⟨S, hS⟩ fun w H3 ⟨S3, hA3⟩ => ⟨b, c, hA3.pop.top.i, hA3.top.i, ?_⟩
    refine k _ H3 ⟨S3, hA3.pop.pop.pop.push (.of ?_)⟩
    show V.bl _ = V.bl _
    rw [e, Bool.true_and]
  | false =>
    rw [if_neg Bool.false_ne_true]
    exact k _ H ⟨S, hS.pop.pop.push (.of (by show V.bl _ = V.bl _; rw [e, Bool.false_and]))⟩
theorem f_int1 {d : PyData} {f : Int → O ρ lam α} {P : Prop} {w : V} {s : Tm} (hA : At K g Γ σ ((w, s) :: (v, .dat (eD d)) :: τ) H) (hm : Out (bindR (intD d) f) N T B C E) (k : ∀ i, At K g Γ σ ((w, s) :: (v, .dat (eI i)) :: τ) H → Out (f i) N T B C E → P) : P := by
  cases d with
  | int i =>
    refine k i ?_ hm
    obtain ⟨S, h⟩ := hA
    refine ⟨S, ?_⟩
    have p : ((w, s) :: (v, Tm.dat (eD (PyData.int i))) :: τ).Perm ((v, Tm.dat (eD (PyData.int i))) :: (w, s) :: τ) := .swap _ _ _
    have h2 := h.perm p
    exact (h2.pop.push (eD_int h2.top)).perm (.swap _ _ _)
  | _ => exact hm.elim
theorem x_cbT {rr : List V → Hp → VK → Prop} {tl : TA} (h : ta σ H fun x H1 => tl σ H1 fun xs H2 => rr (x :: xs) H2 Q) : tCB rr (tCons ta tl) σ H Q := h
theorem x_ifB {u w : TS} {D : Ends} {tc : TT} (h : tc σ H fun b H1 => if b = true then u D σ H1 else w D σ H1) : tIfS tc u w D σ H := h
theorem x_xfm {a Ca : Addr} {d : Option Addr} {x : Er} {cn f : Str} {EC : Str → Addr} {F : PyData → O ρ lam α} (hC : EC cn = Ca) (hg : Γ[i]? = some (some (.dat (eX a d x)))) (hA : At K g Γ σ τ H)
    (hm : Out (bindR (fldR x cn f) F) N T B C E) (k : ∀ y v H', At K g Γ σ ((v, .dat (eD y)) :: τ) H' → Out (F y) N T B C E → Q v H') : tXf a (.ref (EC x.c)) d Ca f (tVar i) σ H Q :=
  x_xf hC hg hA (hm.bindR.imp (fun y q v H' h' => k y v H' h' q) fun _ q => q)
theorem f_joinV {te : TE} {m : O ρ lam γ} {f : γ → O ρ lam α} (Gj : γ → List (Option Tm)) (zj : γ → Tm) (hA0 : At K g Γ σ τ H) (hm : Out (m.bind f) N T B C E) (h : Out m (fun c => ∀ v H', At K g (Gj c) σ ((v, zj c) :: τ) H' → Q v H') T B C E → te σ H Q)
    (k : ∀ c v H', At K g (Gj c) σ ((v, zj c) :: τ) H' → Out (f c) N T B C E → Q v H') : te σ H Q := h (hm.bind.imp (fun c q v H' h' => k c v H' h' q) (fun _ q => q) (fun _ q => q) (fun _ q => q) fun _ q => q)
theorem f_joinT {tt : TT} {m : O ρ lam γ} {f : γ → O ρ lam α} {Q : Bool → Hp → Prop} (Gj : γ → List (Option Tm)) (bj : γ → Bool) (hA0 : At K g Γ σ τ H) (hm : Out (m.bind f) N T B C E) (h : Out m (fun c => ∀ H', At K g (Gj c) σ τ H' → Q (bj c) H') T B C E → tt σ H Q)
    (k : ∀ c H', At K g (Gj c) σ τ H' → Out (f c) N T B C E → Q (bj c) H') : tt σ H Q := h (hm.bind.imp (fun c q H' h' => k c H' h' q) (fun _ q => q) (fun _ q => q) (fun _ q => q) fun _ q => q)
theorem f_boolT {b : Bool} {P : Bool → Hp → Prop} (hA : At K g Γ σ ((v, .dat (eB b)) :: τ) H) (k : At K g Γ σ τ H → P b H) : ∃ c, v = .bl c ∧ P c H := f_tst hA k
theorem o2_isNN {v : Unit} : O2 K Γ rIsN (.dat (eU v)) (.dat eN) (.dat (eB true)) :=
  At.scal2 (fun S v w h1 h2 H Q k => ⟨h2.n, by rw [show v = V.non from Hd.n h1]; exact k⟩) fun _ => rfl
/-! ### more built-ins -/
def gcdI (a b : Int) : Int := ((Nat.gcd a.natAbs b.natAbs : Nat) : Int)
theorem o2_gcd {a b : Int} : O2 K Γ (fun x y => rGcd [x, y]) (.dat (eI a)) (.dat (eI b)) (.dat (eI (gcdI a b))) :=
  At.scal2 (fun S v w h1 h2 H Q k => ⟨a, b, by rw [h1.i, h2.i], k⟩) fun _ => rfl
theorem hds_ints {S : Hp} : ∀ {xs : List Int} {vs : List V}, Hds K S (xs.map eI) vs → vs = xs.map V.int
  | [], _, .nil => rfl
  | x :: xs, _, .cons r t => by rw [show _ = V.int x from r.i, hds_ints t]; rfl
theorem hds_bls {S : Hp} : ∀ {xs : List Bool} {vs : List V}, Hds K S (xs.map eB) vs → vs = xs.map V.bl
  | [], _, .nil => rfl
  | x :: xs, _, .cons r t => by rw [show _ = V.bl x from r.b, hds_bls t]; rfl
theorem o1_sum {xs : List Int} (hl : IsL Γ t (xs.map eI)) : O1 K Γ (fun x => rSum K [x]) t (.dat (eI xs.sum)) := fun g σ τ H x Q ⟨S, h⟩ k => by
  obtain ⟨a, vs, rfl, h2, h3⟩ := h.isL List.mem_cons_self hl
  rw [hds_ints h3] at h2
  exact ⟨a, xs, rfl, h2, k _ H ⟨S, h.pop.push (.of rfl)⟩⟩
theorem o1_all {xs : List Bool} (hl : IsL Γ t (xs.map eB)) : O1 K Γ (fun x => rAll K [x]) t (.dat (eB (xs.all id))) := fun g σ τ H x Q ⟨S, h⟩ k => by
  obtain ⟨a, vs, rfl, h2, h3⟩ := h.isL List.mem_cons_self hl
  rw [hds_bls h3] at h2
  exact ⟨a, xs, rfl, h2, k _ H ⟨S, h.pop.push (.of rfl)⟩⟩
theorem o1_any {xs : List Bool} (hl : IsL Γ t (xs.map eB)) : O1 K Γ (fun x => rAny K [x]) t (.dat (eB (xs.any id))) := fun g σ τ H x Q ⟨S, h⟩ k => by
  obtain ⟨a, vs, rfl, h2, h3⟩ := h.isL List.mem_cons_self hl
  rw [hds_bls h3] at h2
  exact ⟨a, xs, rfl, h2, k _ H ⟨S, h.pop.push (.of rfl)⟩⟩
/-! ### tuple * n -/
def repR {α : Type} (xs : List α) (k : Int) : R (List α) := gd (!xs.isEmpty && decide (2 ≤ k) && decide (k ≤ 1000) && decide (xs.length ≤ 1000)) (List.replicate k.toNat xs).flatten
theorem hds_rep {S : Hp} {ps : List VP} {vs : List V} (d : Hds K S ps vs) : ∀ n : Nat, Hds K S (List.replicate n ps).flatten (List.replicate n vs).flatten
  | 0 => .nil
  | n + 1 => by
    rw [List.replicate_succ, List.replicate_succ, List.flatten_cons, List.flatten_cons]
    exact d.append (hds_rep d n)
theorem rep_map (e : β → VP) (xs : List β) (n : Nat) : (List.replicate n xs).flatten.map e = (List.replicate n (xs.map e)).flatten := by
  rw [List.map_flatten, List.map_replicate]
theorem o2_repT {xs : List β} {e : β → VP} {k : Int} : O2M K Γ (rRepT K) (.dat (eT e xs)) (.dat (eI k)) (repR xs k) (fun c => .dat (eT e c)) := At.part2 fun hc => fun g σ τ H x y Q ⟨S, h⟩ kk => by
  simp only [Bool.and_eq_true, decide_eq_true_eq, Bool.not_eq_true'] at hc
  obtain ⟨⟨⟨h0, h1⟩, h2⟩, h3⟩ := hc
  obtain ⟨a, vs, rfl, k2, k3⟩ := Hd.t h.pop.top
  have hl : vs.length = xs.length := by rw [k3.len, List.length_map]
  refine ⟨a, k, vs, rfl, h.top.i, same_t h.base.sh k2, fun e0 => ?_, h1, h2, by omega, fun p hn => kk _ _ (h.pop.pop.newT hn ?_)⟩
  · subst e0
    cases xs with
    | nil => cases h0
    | cons _ _ => simp at hl
  · rw [rep_map]
    exact hds_rep k3 k.toNat
end
end Gv

set_option Elab.async false
set_option linter.all false
set_option maxRecDepth 100000
set_option maxHeartbeats 2000000
/-! Gv: what is walked, told on the way; unpacking of data -/
namespace Gv
open PySem L2
/-- the walk of xs at a place gives what Rk asks -/
def WK (K : PySem.W.Frag) (g : Gh) (Γ : List (Option Tm)) (σ : St) (τ : List (V × Tm)) {β : Type} (xs : List β) (e : β → VP) (Rk : It → Hp → Prop) : Prop :=
  ∀ (J : It) (Gd : Hp → Prop) (Y : Nat → Hp → V → Hp → Prop) (S1 H' : Hp), Walk J xs.length Gd Y → Same g.S0 S1 → (∀ b, g.F b ≠ none → g.S0 b = none → S1 b = none) → At K ⟨S1, g.F⟩ Γ σ τ H' →
      (∀ S2 H2, Base ⟨S1, g.F⟩ S2 H2 → Gd H2) →
      (∀ (i : Nat) (b : β) (x : V) (H1 H2 : Hp) (Γ' : List (Option Tm)) (σ' : St) (τ' : List (V × Tm)), xs[i]? = some b → Y i H1 x H2 → At K ⟨S1, g.F⟩ Γ' σ' τ' H1 → At K ⟨S1, g.F⟩ Γ' σ' ((x, .dat (e b)) :: τ') H2) → Rk J H'
section
variable {K : PySem.W.Frag} {ρ lam α β γ : Type} {X : Fx ρ} {Γ : List (Option Tm)} {g : Gh} {H : Hp} {σ : St} {τ : List (V × Tm)} {v x y : V} {t u z : Tm} {i : Nat} {ta tb tc te : TE} {r r' : R2} {Q : VK} {N : α → Prop} {T : ρ → Prop} {B C : lam → Prop} {E : Er → Prop}
  {e : β → VP} {xs : List β} {Rk : It → Hp → Prop}
theorem wk_list (hA : At K g Γ σ ((v, .dat (eL e xs)) :: τ) H) (hm : WK K g Γ σ τ xs e Rk) : ∃ a, v = .ref a ∧ (∃ xs, SqL K H a xs) ∧ Rk (Itl K a) H := by
  obtain ⟨S, h⟩ := hA
  obtain ⟨a, vs, rfl, h2, h3⟩ := Hd.l h.top
  have hl : vs.length = xs.length := by rw [h3.len, List.length_map]
  refine ⟨a, rfl, ⟨vs, h.base.sh.seq h2⟩, hm (Itl K a) (fun H => SqL K H a vs) (YAt vs) S H (by rw [← hl]; exact walk_list) h.base.s0 h.base.fs ⟨S, h.pop.reS⟩ (fun S2 H2 B => B.reS.seq h2) fun i b x H1 H2 Γ' σ' τ' hb hy ⟨S2, hA2⟩ => ?_⟩
  obtain ⟨rfl, hx⟩ := hy
  obtain ⟨w, w1, w2⟩ := h3.get (show (xs.map e)[i]? = some (e b) by rw [List.getElem?_map, hb]; rfl)
  rw [hx] at w1
  cases w1
  exact ⟨S2, hA2.push (w2.mono hA2.base.s0)⟩
theorem wk_tup (hA : At K g Γ σ ((v, .dat (eT e xs)) :: τ) H) (hm : WK K g Γ σ τ xs e Rk) : ∃ a, v = .ref a ∧ (∃ xs, SqT K H a xs) ∧ Rk (Itt K a) H := by
  obtain ⟨S, h⟩ := hA
  obtain ⟨a, vs, rfl, h2, h3⟩ := Hd.t h.top
  have hl : vs.length = xs.length := by rw [h3.len, List.length_map]
  refine ⟨a, rfl, ⟨vs, same_t h.base.sh h2⟩, hm (Itt K a) (fun H => SqT K H a vs) (YAt vs) S H (by rw [← hl]; exact walk_tup) h.base.s0 h.base.fs ⟨S, h.pop.reS⟩ (fun S2 H2 B => same_t B.reS h2) fun i b x H1 H2 Γ' σ' τ' hb hy ⟨S2, hA2⟩ => ?_⟩
  obtain ⟨rfl, hx⟩ := hy
  obtain ⟨w, w1, w2⟩ := h3.get (show (xs.map e)[i]? = some (e b) by rw [List.getElem?_map, hb]; rfl)
  rw [hx] at w1
  cases w1
  exact ⟨S2, hA2.push (w2.mono hA2.base.s0)⟩
theorem wk_rng {a b : Int} (hA : At K g Γ σ τ H) (hm : WK K g Γ σ τ (rangeL a b) eI Rk) : Rk (Itr a (b - a).toNat) H := by
  obtain ⟨S, h⟩ := hA
  refine hm (Itr a (b - a).toNat) (fun _ => True) (YFn fun i => .int (a + i)) S H (by rw [rangeL_len]; exact walk_range) h.base.s0 h.base.fs ⟨S, h.reS⟩ (fun _ _ _ => True.intro) fun i x v H1 H2 Γ' σ' τ' hx hy hA2 => ?_
  obtain ⟨rfl, rfl⟩ := hy
  exact hA2.scal fun _ => by rw [rangeL_get hx]; rfl
theorem f_rng1 {b : Int} {F : List Int → O ρ lam α} (hA : At K g Γ σ ((v, .dat (eI b)) :: τ) H) (hm : Out (bindR (rngR 0 b) F) N T B C E) (k : Out (F (rangeL 0 b)) N T B C E → WK K g Γ σ τ (rangeL 0 b) eI Rk) :
    ∃ j : Int, [v] = [V.int j] ∧ -(2 ^ 62) ≤ j ∧ j < 2 ^ 62 ∧ Rk (Itr 0 j.toNat) H := by
  obtain ⟨hc, q⟩ := rngR_gd hm.bindR
  simp only [Bool.and_eq_true, decide_eq_true_eq] at hc
  obtain ⟨S, h⟩ := id hA
  refine ⟨b, by rw [show v = V.int b from Hd.i h.top], by omega, by omega, ?_⟩
  have := wk_rng (a := 0) (b := b) hA.pop (k q)
  rwa [Int.sub_zero] at this
theorem f_rng2 {a b : Int} {F : List Int → O ρ lam α} (hA : At K g Γ σ ((y, .dat (eI b)) :: (x, .dat (eI a)) :: τ) H) (hm : Out (bindR (rngR a b) F) N T B C E) (k : Out (F (rangeL a b)) N T B C E → WK K g Γ σ τ (rangeL a b) eI Rk) :
    ∃ i j : Int, [x, y] = [V.int i, V.int j] ∧ (-(2 ^ 62) ≤ i ∧ i < 2 ^ 62 ∧ -(2 ^ 62) ≤ j ∧ j < 2 ^ 62) ∧ Rk (Itr i (j - i).toNat) H := by
  obtain ⟨hc, q⟩ := rngR_gd hm.bindR
  simp only [Bool.and_eq_true, decide_eq_true_eq] at hc
  obtain ⟨S, h⟩ := id hA
  exact ⟨a, b, by rw [show y = V.int b from Hd.i h.top, show x = V.int a from Hd.i h.pop.top], by omega, wk_rng (a := a) (b := b) hA.pop.pop (k q)⟩
/-! ### a datum that is walked: list or tuple -/
def iSeqV (K : PySem.W.Frag) (tl : TE) : TI := fun σ H R => tl σ H fun v H1 => (∃ a, v = .ref a ∧ (∃ xs, SqL K H1 a xs) ∧ R (Itl K a) H1) ∨ (∃ a, v = .ref a ∧ (∃ xs, SqT K H1 a xs) ∧ R (Itt K a) H1)
theorem wk_seq {d : PyData} {F : List PyData → O ρ lam α} (hA : At K g Γ σ ((v, .dat (eD d)) :: τ) H) (hm : Out (bindR (itemsD d) F) N T B C E) (k : ∀ xs, Out (F xs) N T B C E → WK K g Γ σ τ xs eD Rk) :
    (∃ a, v = .ref a ∧ (∃ xs, SqL K H a xs) ∧ Rk (Itl K a) H) ∨ (∃ a, v = .ref a ∧ (∃ xs, SqT K H a xs) ∧ Rk (Itt K a) H) :=
  f_items hA hm fun xs h hm => h.elim (fun h => .inl (wk_list h (k xs hm))) fun h => .inr (wk_tup h (k xs hm))
section
variable {Xc : Cx}
open PyProof.Rows in
theorem pi_seqV {tg l : Expr} {tl : TE} (hl : PE Xc l tl) : PI Xc tg l (iSeqV Xc.K tl) := by
  refine ⟨fun pins s σ H R I h => thn (hl.run pins s σ H _ I h) fun w s1 hw => ?_⟩
  obtain ⟨x, H1, I1, r1, q1⟩ := hw
  have fresh : ∀ b ∈ [s1.heap.objs.size], FpOk Xc pins H1 b := fun b hb => by
    have eb : b = s1.heap.objs.size := by simpa using hb
    rw [eb]
    exact I1.fpOk (Nat.le_refl _) (I1.hok.fresh (Nat.le_refl _))
  rcases q1 with ⟨a, ea, ⟨ws, hs⟩, q⟩ | ⟨a, ea, ⟨ws, hs⟩, q⟩
  · rw [ea] at r1
    cases r1
    obtain ⟨its, _, pl, _⟩ := I1.list hs
    exact wpAny_pyIter_list pl.isList ⟨s1.heap.objs.size, [s1.heap.objs.size], _, _, H1, rfl, I1.kept (t' := s1.toks) fun b o hb => Heap.get?_push_of_some _ hb, turn_list a _, ⟨_, Heap.get?_push_size _ rfl, rfl, rfl⟩, fresh, q⟩
  · rw [ea] at r1
    cases r1
    obtain ⟨its, _, pt, _⟩ := I1.tuple hs
    exact wpAny_pyIter_tuple pt ⟨s1.heap.objs.size, [s1.heap.objs.size], _, _, H1, rfl, I1.kept (t' := s1.toks) fun b o hb => Heap.get?_push_of_some _ hb, turn_tuple a _, ⟨_, Heap.get?_push_size _ rfl, rfl, rfl⟩, fresh, q⟩
end
/-! ### for -/
def FR (tg : TG) (tb u : TS) (D : Ends) (σ : St) : It → Hp → Prop := fun J H1 => ∃ W : Nat → Nat → St → Hp → Prop, (∃ m, W 0 m σ H1) ∧ ∀ i m σ H, W i m σ H →
  (J.stop i H ∧ u D σ H) ∨ (J.go i H ∧ ∃ N : St → Hp → Prop, (∀ σ' H', N σ' H' → ∃ m', m' < m ∧ W (i + 1) m' σ' H') ∧ ∀ x H', J.yld i H x H' → tg x σ H' fun σ2 H2 => tb { D with nx := N, ct := N, bk := u D } σ2 H2)
variable {tg : TG} {tb u : TS} {D : Ends} {wi : TI} {tl : TE}
theorem x_for (h : wi σ H (FR tg tb u D σ)) : tSeq (tFor wi tg tb) u D σ H := h
theorem x_forL (h : tl σ H fun v H1 => ∃ a, v = .ref a ∧ (∃ xs, SqL K H1 a xs) ∧ FR tg tb u D σ (Itl K a) H1) : tSeq (tFor (iList K tl) tg tb) u D σ H := h
theorem x_forT (h : tl σ H fun v H1 => ∃ a, v = .ref a ∧ (∃ xs, SqT K H1 a xs) ∧ FR tg tb u D σ (Itt K a) H1) : tSeq (tFor (iTup K tl) tg tb) u D σ H := h
theorem x_forD (h : tl σ H fun v H1 => (∃ a, v = .ref a ∧ (∃ xs, SqL K H1 a xs) ∧ FR tg tb u D σ (Itl K a) H1) ∨ (∃ a, v = .ref a ∧ (∃ xs, SqT K H1 a xs) ∧ FR tg tb u D σ (Itt K a) H1)) : tSeq (tFor (iSeqV K tl) tg tb) u D σ H := h
theorem x_forR1 (h : tl σ H fun v H1 => ∃ j : Int, [v] = [V.int j] ∧ -(2 ^ 62) ≤ j ∧ j < 2 ^ 62 ∧ FR tg tb u D σ (Itr 0 j.toNat) H1) : tSeq (tFor (iRng1 (tCons tl tNil)) tg tb) u D σ H := h
theorem x_forR2 (h : ta σ H fun x H1 => tl σ H1 fun y H2 => ∃ i j : Int, [x, y] = [V.int i, V.int j] ∧ (-(2 ^ 62) ≤ i ∧ i < 2 ^ 62 ∧ -(2 ^ 62) ≤ j ∧ j < 2 ^ 62) ∧ FR tg tb u D σ (Itr i (j - i).toNat) H2) : tSeq (tFor (iRng2 (tCons ta (tCons tl tNil))) tg tb) u D σ H := h
/-- a for whose items are told; hb: the target and the body -/
theorem f_for {sT : Type} {f : sT → β → O ρ sT sT} {s0 : sT} {k : sT → O ρ lam α} {n : α → List (Option Tm)} {b c : lam → List (Option Tm)} (Gl : sT → List (Option Tm)) (h0 : Le (Gl s0) Γ)
    (hm : Out ((forO f xs s0).bind k) (NxW K g n D.nx) (RtW K g X D.rt) (NxW K g b D.bk) (NxW K g c D.ct) (ErW K g X))
    (hb : ∀ s y (g : Gh) (σ : St) (H : Hp) (D : Ends) (x : V), At K g (Gl s) σ [(x, .dat (e y))] H → Out (f s y) (NxW K g Gl D.nx) (RtW K g X D.rt) (NxW K g Gl D.bk) (NxW K g Gl D.ct) (ErW K g X) → tg x σ H (tb D))
    (hr : ∀ s, BJ K X (Gl s) u (k s) n b c) : WK K g Γ σ [] xs e (FR tg tb u D σ) := fun J Gd Y S1 H' w es ef hA' hG hY => by
  have q2 := hm.bind
  refine for_it (D := { D with nx := u D }) w (fun i σ H => ∃ s, At K ⟨S1, g.F⟩ (Gl s) σ [] H ∧ Out (forO f (xs.drop i) s : O ρ lam sT) (fun s' => ∀ σ' H', At K ⟨S1, g.F⟩ (Gl s') σ' [] H' → u D σ' H') (RtW K ⟨S1, g.F⟩ X D.rt) (fun l => NxW K g b D.bk l) (fun l => NxW K g c D.ct l) (ErW K ⟨S1, g.F⟩ X))
    ⟨s0, hA'.weak h0, ?_⟩ (fun i σ H _ ⟨s, ⟨S2, h2⟩, _⟩ => hG S2 H h2.base) ?_ ?_
  · rw [List.drop_zero]
    refine q2.imp (fun s' q3 σ' H' h' => hr s' g σ' H' D (h'.unS es ef) q3) (fun r q3 v H' σ' h' => q3 v H' σ' (h'.unS es ef)) (fun _ q3 => q3) (fun _ q3 => q3) (fun x q3 => q3.unS es ef)
  · rintro i x σ H H' hi ⟨s, hA2, q3⟩ hy
    have hx : xs[i]? = some xs[i] := List.getElem?_eq_getElem hi
    rw [List.drop_eq_getElem_cons hi] at q3
    have q4 := forO_out q3
    exact hb s xs[i] ⟨S1, g.F⟩ σ H' _ x (hY i _ x H H' _ _ _ hx hy hA2) (q4.imp (fun s' q5 σ' H' h' => ⟨s', h', q5⟩) (fun _ q5 => q5) (fun s' q5 σ' H' h' => q5 σ' H' h') (fun s' q5 σ' H' h' => ⟨s', h', q5⟩) fun _ q5 => q5)
  · rintro σ H ⟨s, hA2, q3⟩
    rw [List.drop_length] at q3
    exact q3 σ H hA2
/-- a target whose parts are told -/
theorem hb_of {sT : Type} {f : sT → β → O ρ sT sT} {js : List Nat} {ps : β → List VP} {Gl : sT → List (Option Tm)} (ht : ∀ b, TJ K tg (e b) js (ps b)) (hj : ∀ s, ∀ j ∈ js, j < (Gl s).length)
    (hb : ∀ s b, BJ K X (setG (Gl s) js (ps b)) tb (f s b) Gl Gl Gl) : ∀ s y (g : Gh) (σ : St) (H : Hp) (D : Ends) (x : V), At K g (Gl s) σ [(x, .dat (e y))] H → Out (f s y) (NxW K g Gl D.nx) (RtW K g X D.rt) (NxW K g Gl D.bk) (NxW K g Gl D.ct) (ErW K g X) → tg x σ H (tb D) :=
  fun s y g σ H D x hA hm => (ht y).2 g (Gl s) σ [] H x _ (hj s) (fun y hy => (by cases hy)) hA fun vs H2 _ hA3 => hb s y g _ H2 _ hA3 hm
/-! ### a while's test that is no plain one -/
theorem cj_fwd {sT : Type} {tt : TT} {cn : sT → R (sT × Bool)} {Gl : sT → List (Option Tm)} (h : ∀ s g σ H (Q : Bool → Hp → Prop), At K g (Gl s) σ [] H → Out (cn s) (fun sb => ∀ H', At K g (Gl sb.1) σ [] H' → Q sb.2 H') (fun _ => True) (fun _ => True) (fun _ => True) (ErW K g X) → tt σ H Q) :
    ∀ s g σ H (Q : Bool → Hp → Prop), At K g (Gl s) σ [] H → OutR (cn s) (fun sb => ∀ H', At K g (Gl sb.1) σ [] H' → Q sb.2 H') (ErW K g X) → tt σ H Q := fun s g σ H Q hA hm => h s g σ H Q hA hm.out
/-! ### comprehensions -/
def LR (tg : TG) (tt : TT) (te : TE) (vs : List Nat) (σ : St) (Q : VK) : It → Hp → Prop := fun J H1 => ∀ D, H1 D = none → ∃ W : Nat → Nat → Hp → Prop, (∃ m, W 0 m (upd H1 D (.lst []))) ∧ ∀ i m H, W i m H →
  (J.stop i H ∧ Q (.ref D) H) ∨ (J.go i H ∧ ∃ Nx : Hp → Prop, (∀ H', Nx H' → ∃ m', m' < m ∧ W (i + 1) m' H') ∧ ∀ x H', J.yld i H x H' → tg x (wipe σ vs) H' fun σ2 H2 => wipe σ2 vs = wipe σ vs ∧ tt σ2 H2 fun b H3 =>
    if b = true then te σ2 H3 fun y H4 => ∃ acc, H4 D = some (.lst acc) ∧ acc.length < sizeLine ∧ Nx (upd H4 D (.lst (acc ++ [y]))) else Nx H3)
variable {tt : TT} {vs : List Nat}
theorem x_lc (h : wi σ H (LR tg tt te vs σ Q)) : tLc wi tg tt te vs σ H Q := h
theorem x_lcL (h : tl σ H fun v H1 => ∃ a, v = .ref a ∧ (∃ xs, SqL K H1 a xs) ∧ LR tg tt te vs σ Q (Itl K a) H1) : tLc (iList K tl) tg tt te vs σ H Q := h
theorem x_lcT (h : tl σ H fun v H1 => ∃ a, v = .ref a ∧ (∃ xs, SqT K H1 a xs) ∧ LR tg tt te vs σ Q (Itt K a) H1) : tLc (iTup K tl) tg tt te vs σ H Q := h
theorem x_lcD (h : tl σ H fun v H1 => (∃ a, v = .ref a ∧ (∃ xs, SqL K H1 a xs) ∧ LR tg tt te vs σ Q (Itl K a) H1) ∨ (∃ a, v = .ref a ∧ (∃ xs, SqT K H1 a xs) ∧ LR tg tt te vs σ Q (Itt K a) H1)) : tLc (iSeqV K tl) tg tt te vs σ H Q := h
theorem x_lcR1 (h : tl σ H fun v H1 => ∃ j : Int, [v] = [V.int j] ∧ -(2 ^ 62) ≤ j ∧ j < 2 ^ 62 ∧ LR tg tt te vs σ Q (Itr 0 j.toNat) H1) : tLc (iRng1 (tCons tl tNil)) tg tt te vs σ H Q := h
theorem x_lcR2 (h : ta σ H fun x H1 => tl σ H1 fun y H2 => ∃ i j : Int, [x, y] = [V.int i, V.int j] ∧ (-(2 ^ 62) ≤ i ∧ i < 2 ^ 62 ∧ -(2 ^ 62) ≤ j ∧ j < 2 ^ 62) ∧ LR tg tt te vs σ Q (Itr i (j - i).toNat) H2) : tLc (iRng2 (tCons ta (tCons tl tNil))) tg tt te vs σ H Q := h
theorem f_lcW {sT : Type} {js : List Nat} {ps : β → List VP} {enc : γ → VP} {f : sT → β → R (sT × Option γ)} {F : sT × List γ → O ρ lam α} (Gl : sT → List (Option Tm)) (s0 : sT) (ht : ∀ b, TJ K tg (e b) js (ps b)) (nd : js.Nodup)
    (hn : ∀ s, ∀ j ∈ js, (Gl s)[j]? = some none) (hv : ∀ s, ∀ j ∈ vs, (Gl s)[j]? = some none) (hsub : ∀ j ∈ js, j ∈ vs) (hl : LJ K Gl js ps enc tt te f)
    (hm : Out (bindR (lcR f xs s0 []) F) N T B C E) (k : ∀ r v H', At K g (Gl r.1) σ ((v, oL enc r.2) :: τ) H' → Out (F r) N T B C E → Q v H') : WK K g (Gl s0) σ τ xs e (LR tg tt te vs σ Q) := fun J Gd Y S1 H' w es ef hA' hG hY => by
  have hm2 : OutR (lcR f xs s0 []) (fun r => ∀ v H', At K g (Gl r.1) σ ((v, oL enc r.2) :: τ) H' → Q v H') E := hm.bindR.imp (fun r q v H' h' => k r v H' h' q) fun _ q => q
  have hi : ∀ Rk : It → Hp → Prop, Rk = LR tg tt te vs σ Q → Rk J H' := fun Rk eR => by
    subst eR
    have two : tLc (fun _ _ R => R J H') tg tt te vs σ H' Q := by
      show ∀ D, H' D = none → _
      intro D hD
      refine lc_it w (fun i H => ∃ s acc, At K ⟨S1, g.F⟩ (Gl s) σ ((.ref D, .own (some D) (.lst (acc.map enc))) :: τ) H ∧ OutR (lcR f (xs.drop i) s acc) (fun r => ∀ v H', At K g (Gl r.1) σ ((v, oL enc r.2) :: τ) H' → Q v H') E)
        ⟨s0, [], ?_, by rw [List.drop_zero]; exact hm2⟩ (fun i H _ ⟨s, acc, ⟨S2, h2⟩, _⟩ => hG S2 H h2.base) ?_ ?_
      · obtain ⟨S, h⟩ := hA'
        exact ⟨S, h.freshA (fun b z => (Option.some.inj z).symm) hD ⟨[], rfl, .nil⟩⟩
      · rintro i x H H' hi ⟨s, acc, hA2, q3⟩ hy
        have hx : xs[i]? = some xs[i] := List.getElem?_eq_getElem hi
        rw [List.drop_eq_getElem_cons hi] at q3
        have q4 := lcR_out q3
        have hA3 : At K ⟨S1, g.F⟩ (Gl s) (wipe σ vs) ((.ref D, .own (some D) (.lst (acc.map enc))) :: τ) H := by
          obtain ⟨S, h⟩ := hA2
          exact ⟨S, h.slots (fun j t ej => wipe_get fun z => by rw [hv s j z] at ej; cases ej) (by rw [wipe_length]; exact h.len)⟩
        have hal : ∀ y ∈ (V.ref D, Tm.own (some D) (.lst (acc.map enc))) :: τ, ∀ k, y.2 = Tm.als k → k ∉ js := fun y hy k ek hk => by
          obtain ⟨S, h⟩ := hA2
          obtain ⟨oa, c, q⟩ := h.al y hy k ek
          rw [hn s k hk] at q; cases q
        refine (ht xs[i]).2 ⟨S1, g.F⟩ (Gl s) (wipe σ vs) _ H' x _ (fun j hj => (List.getElem?_eq_some_iff.mp (hn s j hj)).1) hal (hY i _ x H H' _ _ _ hx hy hA3) fun ws H2 _ hA4 => ⟨wipe_set hsub, ?_⟩
        have back : ∀ {s' : sT} {τ' : List (V × Tm)} {H3 : Hp}, At K ⟨S1, g.F⟩ (setG (Gl s') js (ps xs[i])) (setS (wipe σ vs) js ws) τ' H3 → At K ⟨S1, g.F⟩ (Gl s') σ τ' H3 := fun {s' τ' H3} ⟨S, h⟩ => by
          have h5 := forget nd (hn s') h
          have hlen : (Gl s').length ≤ σ.length := by
            have := h5.len
            rw [setS_len, wipe_length] at this
            exact this
          exact ⟨S, h5.slots (fun j t ej => by
            have n1 : j ∉ js := fun z => by rw [hn s' j z] at ej; cases ej
            have n2 : j ∉ vs := fun z => by rw [hv s' j z] at ej; cases ej
            rw [setS_get n1, wipe_get n2]) hlen⟩
        have := hl s xs[i] ⟨S1, g.F⟩ (setS (wipe σ vs) js ws) _ H2 (fun o H4 => match o with
          | none => ∃ s acc, At K ⟨S1, g.F⟩ (Gl s) σ ((.ref D, .own (some D) (.lst (acc.map enc))) :: τ) H4 ∧ OutR (lcR f (xs.drop (i + 1)) s acc) (fun r => ∀ v H', At K g (Gl r.1) σ ((v, oL enc r.2) :: τ) H' → Q v H') E
          | some y => ∃ acc, H4 D = some (.lst acc) ∧ acc.length < sizeLine ∧ ∃ s acc', At K ⟨S1, g.F⟩ (Gl s) σ ((.ref D, .own (some D) (.lst (acc'.map enc))) :: τ) (upd H4 D (.lst (acc ++ [y]))) ∧ OutR (lcR f (xs.drop (i + 1)) s acc') (fun r => ∀ v H', At K g (Gl r.1) σ ((v, oL enc r.2) :: τ) H' → Q v H') E) hA4 (q4.imp (fun r q5 => ?_) fun _ q5 => q5)
        · exact this
        · obtain ⟨s1, o⟩ := r
          cases o with
          | none => exact fun H4 h4 => ⟨s1, acc, back h4, q5⟩
          | some y =>
            intro v H4 h4
            obtain ⟨q6, q7⟩ := q5
            obtain ⟨S, h5⟩ := back h4
            have hv5 : Hd K (enc y) v S := h5.top
            obtain ⟨a, o, e1, e2, _, _, e3, vs3, rfl, d3⟩ := h5.pop.top
            cases e1
            obtain ⟨o2, _, _, h6⟩ := h5.pop.writeT (c' := .lst ((acc ++ [y]).map enc)) (o' := .lst (vs3 ++ [v])) ⟨_, rfl, by rw [List.map_append]; exact d3.append (.cons hv5 .nil)⟩
            exact ⟨vs3, e3, by rw [d3.len, List.length_map]; exact lt_line q6, s1, acc ++ [y], ⟨S, h6⟩, q7⟩
      · rintro H ⟨s, acc, hA2, q3⟩
        rw [List.drop_length] at q3
        obtain ⟨S, h⟩ := hA2
        exact q3 (.ref D) H (At.unS ⟨S, h.oaNone⟩ es ef)
    exact two
  exact hi _ rfl
/-- what an item gives, told on the way -/
theorem lj_fwd {sT : Type} {js : List Nat} {ps : β → List VP} {enc : γ → VP} {f : sT → β → R (sT × Option γ)} {Gl : sT → List (Option Tm)}
    (h : ∀ s b g σ τ H (Q : VK) (Qn : Hp → Prop), At K g (setG (Gl s) js (ps b)) σ τ H → Out (f s b) (fun r => match r.2 with
      | none => ∀ H', At K g (setG (Gl r.1) js (ps b)) σ τ H' → Qn H'
      | some y => ∀ v H', At K g (setG (Gl r.1) js (ps b)) σ ((v, .dat (enc y)) :: τ) H' → Q v H') (fun _ => True) (fun _ => True) (fun _ => True) (fun _ => False) → tt σ H fun b H3 => if b = true then te σ H3 Q else Qn H3) : LJ K Gl js ps enc tt te f :=
  fun s b g σ τ H Q hA hm => h s b g σ τ H (fun y H4 => Q (some y) H4) (Q none) hA (hm.out.imp (fun r q => by
    cases e : r.2 with
    | none => rw [e] at q; exact q
    | some y => rw [e] at q; exact q) (fun _ q => q) (fun _ q => q) (fun _ q => q) fun _ q => q)
theorem x_yes {P : Hp → Prop} {Q' : Hp → Prop} (h : P H) : tYes σ H fun b H3 => if b = true then P H3 else Q' H3 := by
  show if true = true then P H else Q' H
  rw [if_pos rfl]
  exact h
/-! ### unpacking -/
/-- a list or a tuple of these -/
def eW (ps : List VP) : VP := fun K v S => rL ps K v S ∨ rT ps K v S
theorem eW_hd {S : Hp} {ps : List VP} (h : Hd K (eW ps) v S) : Hd K (rL ps) v S ∨ Hd K (rT ps) v S := by
  obtain ⟨S0, e, q⟩ := h
  exact q.elim (fun q => .inl ⟨S0, e, q⟩) fun q => .inr ⟨S0, e, q⟩
theorem eW_l {S : Hp} {ps : List VP} (h : Hd K (rL ps) v S) : Hd K (eW ps) v S := by
  obtain ⟨S0, e, q⟩ := h
  exact ⟨S0, e, .inl q⟩
theorem eW_t {S : Hp} {ps : List VP} (h : Hd K (rT ps) v S) : Hd K (eW ps) v S := by
  obtain ⟨S0, e, q⟩ := h
  exact ⟨S0, e, .inr q⟩
def unp2 (d : PyData) : R (PyData × PyData) := bindR (itemsD d) fun xs => match xs with
  | [a, b] => .nx (a, b)
  | _ => .stuck
def unp3 (d : PyData) : R (PyData × PyData × PyData) := bindR (itemsD d) fun xs => match xs with
  | [a, b, c] => .nx (a, b, c)
  | _ => .stuck
theorem unp3_out {d : PyData} {f : PyData × PyData × PyData → O ρ lam α} (h : Out (bindR (unp3 d) f) N T B C E) : ∃ a b c, (d = .list [a, b, c] ∨ d = .tuple [a, b, c]) ∧ Out (f (a, b, c)) N T B C E := by
  cases d with
  | list xs =>
    match xs, h with
    | [a, b, c], h => exact ⟨a, b, c, .inl rfl, h⟩
    | [], h => exact h.elim
    | [_], h => exact h.elim
    | [_, _], h => exact h.elim
    | _ :: _ :: _ :: _ :: _, h => exact h.elim
  | tuple xs =>
    match xs, h with
    | [a, b, c], h => exact ⟨a, b, c, .inr rfl, h⟩
    | [], h => exact h.elim
    | [_], h => exact h.elim
    | [_, _], h => exact h.elim
    | _ :: _ :: _ :: _ :: _, h => exact h.elim
  | _ => exact h.elim
theorem f_unp3 {d : PyData} {f : PyData × PyData × PyData → O ρ lam α} {P : Prop} (hA : At K g Γ σ ((v, .dat (eD d)) :: τ) H) (hm : Out (bindR (unp3 d) f) N T B C E) (k : ∀ q, At K g Γ σ ((v, .dat (eW [eD q.1, eD q.2.1, eD q.2.2])) :: τ) H → Out (f q) N T B C E → P) : P := by
  obtain ⟨a, b, c, h | h, q⟩ := unp3_out hm
  · subst h
    exact k (a, b, c) (hA.box fun v S q => eW_l (eD_list q)) q
  · subst h
    exact k (a, b, c) (hA.box fun v S q => eW_t (eD_tup q)) q
theorem hds_set {S : Hp} {p q : VP} {ps : List VP} : ∀ {ps : List VP} {vs : List V} (j : Nat), Hds K S ps vs → (∀ w, ps[j]? = some p → Hd K p w S → Hd K q w S) → ps[j]? = some p → Hds K S (ps.set j q) vs
  | _, _, 0, .cons r t, h, e => .cons (h _ e (by cases e; exact r)) t
  | _, _, j + 1, .cons r t, h, e => .cons r (hds_set (ps := ps) j t (fun w e' => h w (by simpa using e')) (by simpa using e))
theorem At.boxW {p q : VP} {ps : List VP} (j : Nat) (e : ps[j]? = some p) (hb : ∀ w S, Hd K p w S → Hd K q w S) (h : At K g Γ σ ((v, .dat (eW ps)) :: τ) H) : At K g Γ σ ((v, .dat (eW (ps.set j q))) :: τ) H := h.box fun v S z => by
  rcases eW_hd z with z | z
  · obtain ⟨a, vs, rfl, h2, h3⟩ := Hd.l z
    exact eW_l (.of ⟨a, vs, rfl, h2, hds_set (ps := ps) j h3 (fun w _ => hb w S) e⟩)
  · obtain ⟨a, vs, rfl, h2, h3⟩ := Hd.t z
    exact eW_t (.of ⟨a, vs, rfl, h2, hds_set (ps := ps) j h3 (fun w _ => hb w S) e⟩)
/-- the j-th is an int -/
theorem f_wint (j : Nat) {d : PyData} {ps : List VP} {f : Int → O ρ lam α} {P : Prop} (e : ps[j]? = some (eD d)) (hA : At K g Γ σ ((v, .dat (eW ps)) :: τ) H) (hm : Out (bindR (intD d) f) N T B C E) (k : ∀ i, At K g Γ σ ((v, .dat (eW (ps.set j (eI i)))) :: τ) H → Out (f i) N T B C E → P) : P := by
  cases d with
  | int i => exact k i (hA.boxW j e fun w S q => eD_int q) hm
  | _ => exact hm.elim
def gSeq (K : PySem.W.Frag) (n : Nat) (t : TGs) : TG := fun v σ H Q => gTup K n t v σ H Q ∨ gLst K n t v σ H Q
theorem pg_seq {Xc : Cx} {pos : Pos} {es : List Expr} {k : Nat} {t : TGs} {n : Nat} (hc : Xc.calm = true) (h : PGs Xc es t)
    (hn : (assignEach es Xc.env).length = n := by rfl) (hst : (assignEach es Xc.env).findIdx? (·.1) = none := by rfl) : PG Xc (.Tuple es k pos) (gSeq Xc.K n t) := by
  refine ⟨fun pins s σ H v u Q I r hw => ?_⟩
  rcases hw with hw | hw
  · exact (pg_tup hc h hn hst).run pins s σ H v u Q I r hw
  · exact (pg_lst hc h hn hst).run pins s σ H v u Q I r hw
theorem tj_seq {n : Nat} {tgs : TGs} {qs ps : List VP} {js : List Nat} (h : TJs K tgs qs js ps) (hn : qs.length = n) : TJ K (gSeq K n tgs) (eW qs) js ps := ⟨h.1, fun g Γ σ τ H x Q hi hτ ⟨S, hA⟩ k => by
  rcases eW_hd hA.top with z | z
  · obtain ⟨a, vs, rfl, h2, h3⟩ := Hd.l z
    exact .inr ⟨a, vs, rfl, hA.base.sh.seq h2, by rw [h3.len, hn], h.2 g Γ σ τ H vs Q hi hτ h3.len ⟨S, hA.pop.pushes h3⟩ k⟩
  · obtain ⟨a, vs, rfl, h2, h3⟩ := Hd.t z
    exact .inl ⟨a, vs, rfl, same_t hA.base.sh h2, by rw [h3.len, hn], h.2 g Γ σ τ H vs Q hi hτ h3.len ⟨S, hA.pop.pushes h3⟩ k⟩⟩
/-! ### a slice of a datum -/
def rSlQ (K : PySem.W.Frag) : V → Option Int → Option Int → Hp → VK → Prop := fun x lo hi H Q => rSlL K x lo hi H Q ∨ rSlA K x lo hi H Q
theorem sl_q {Xc : Cx} (hc : Xc.calm = true := by rfl) : SlR Xc (rSlQ Xc.K) := SlR.or sl_list sl_tupA
def cutD (d : PyData) (lo hi : Option Int) : R PyData := match d with
  | .list xs => .nx (.list (cutL xs lo hi))
  | .tuple xs => .nx (.tuple (cutL xs lo hi))
  | _ => .stuck
theorem f_cutD {d : PyData} {lo hi : Option Int} {f : PyData → O ρ lam α} (hA : At K g Γ σ ((v, .dat (eD d)) :: τ) H) (hm : Out (bindR (cutD d lo hi) f) N T B C E) (k : ∀ c v H', At K g Γ σ ((v, .dat (eD c)) :: τ) H' → Out (f c) N T B C E → Q v H') : rSlQ K v lo hi H Q := by
  cases d with
  | list xs =>
    refine .inl (o1_cutLT (xs := xs) (e := eD) .dat g σ τ H v Q (hA.box fun v S q => eD_list q) fun w H' h' => k _ w H' (h'.frz.box fun v S q => ?_) hm)
    have z := bx_l bx_d K _ v S q
    rw [dL, List.map_id] at z
    exact .of z
  | tuple xs =>
    refine .inr (o1_cutTT (xs := xs) (e := eD) g σ τ H v Q (hA.box fun v S q => eD_tup q) fun w H' h' => k _ w H' (h'.box fun v S q => ?_) hm)
    have z := bx_t bx_d K _ v S q
    rw [dT, List.map_id] at z
    exact .of z
  | _ => exact hm.elim
theorem x_sl {r : V → Option Int → Option Int → Hp → VK → Prop} {t1 t2 : TO} (h : te σ H fun x H1 => t1 σ H1 fun l H2 => t2 σ H2 fun u H3 => r x l u H3 Q) : tSl r te t1 t2 σ H Q := h
end
end Gv

set_option Elab.async false
set_option linter.all false
set_option maxRecDepth 100000
set_option maxHeartbeats 2000000
/-! Gv: what a text's top gives; small helps for printed proofs -/
namespace Gv
open PySem L2
section
variable {K : PySem.W.Frag} {ρ lam α β γ : Type} {X : Fx ρ} {Γ : List (Option Tm)} {g : Gh} {H : Hp} {σ : St} {τ : List (V × Tm)} {v x y : V} {t u z : Tm} {i j : Nat} {ta tb tc te : TE} {r r' : R2} {Q : VK} {N : α → Prop} {T : ρ → Prop} {B C : lam → Prop} {E : Er → Prop}
theorem dpt_d {d : PyData} : DpT K Γ (.dat (eD d)) d := DpT.dat (e := eD) (d := id) (x := d) bx_d
theorem hjl {sT : Type} {Gl : sT → List (Option Tm)} {js : List Nat} {n : Nat} (h1 : ∀ s, (Gl s).length = n) (h2 : js.all (fun j => decide (j < n)) = true) : ∀ s, ∀ j ∈ js, j < (Gl s).length := fun s j hj => by
  rw [h1 s]
  exact of_decide_eq_true (List.all_eq_true.mp h2 j hj)
def isNn (G : List (Option Tm)) (j : Nat) : Bool := match G[j]? with
  | some none => true
  | _ => false
theorem hnl {sT : Type} {Gl : sT → List (Option Tm)} {js : List Nat} (h : ∀ s, js.all (isNn (Gl s)) = true) : ∀ s, ∀ j ∈ js, (Gl s)[j]? = some none := fun s j hj => by
  have q := List.all_eq_true.mp (h s) j hj
  unfold isNn at q
  split at q
  · assumption
  · cases q
/-- a, b = x, y -/
theorem x_par {u : TS} {D : Ends} (h : ta σ H fun x H1 => tb σ H1 fun y H2 => u D ((σ.set i (some x)).set j (some y)) H2) : tSeq (tPar i j (tCons ta (tCons tb tNil))) u D σ H := by
  show ta σ H fun x H1 => tb σ H1 fun y H2 => ∃ v w, [x, y] = [v, w] ∧ u D ((σ.set i (some v)).set j (some w)) H2
  have e : (fun x H1 => tb σ H1 fun y H2 => ∃ v w, [x, y] = [v, w] ∧ u D ((σ.set i (some v)).set j (some w)) H2) = fun x H1 => tb σ H1 fun y H2 => u D ((σ.set i (some x)).set j (some y)) H2 := by
    funext x H1
    congr 1
    funext y H2
    apply propext
    constructor
    · rintro ⟨v, w, e, q⟩
      cases e
      exact q
    · exact fun q => ⟨x, y, rfl, q⟩
  rw [e]
  exact h
theorem At.setW (h : At K g Γ σ ((y, u) :: (x, t) :: []) H) (hu : ∀ j, u ≠ .als j) (ht : ∀ j, t ≠ .als j) (hj : j < Γ.length) (hi : i < Γ.length) (hij : i ≠ j) : At K g ((Γ.set i (some t)).set j (some u)) ((σ.set i (some x)).set j (some y)) [] H := by
  obtain ⟨S, h⟩ := h
  have h1 := h.set (i := j) hj hu (fun q hq k ek => by
    have : q = (x, t) := by simpa using hq
    subst this
    exact absurd ek (ht k))
  have h2 := h1.set (i := i) (by rw [List.length_set]; exact hi) ht (fun q hq => nomatch hq)
  rw [List.set_comm _ _ (Ne.symm hij), List.set_comm _ _ (Ne.symm hij)] at h2
  exact ⟨S, h2⟩
theorem f_par {n : α → List (Option Tm)} {b c : lam → List (Option Tm)} {m : O ρ lam α} {us : TS} {D : Ends} (hA : At K g Γ σ ((y, u) :: (x, t) :: []) H) (hu : ∀ j, u ≠ .als j) (ht : ∀ j, t ≠ .als j) (hj : j < Γ.length) (hi : i < Γ.length) (hij : i ≠ j)
    (hm : Out m (NxW K g n D.nx) (RtW K g X D.rt) (NxW K g b D.bk) (NxW K g c D.ct) (ErW K g X)) (h : BJ K X ((Γ.set i (some t)).set j (some u)) us m n b c) : us D ((σ.set i (some x)).set j (some y)) H := h g _ H D (hA.setW hu ht hj hi hij) hm
theorem x_gsub {to ti : TE} {ts : TSet} {Q : St → Hp → Prop} (h : to σ H fun o H1 => ti σ H1 fun i H2 => ts o i v H2 fun H3 => Q σ H3) : gSub to ti ts v σ H Q := h
theorem f_setm {e : β → VP} {xs : List β} {k : Int} {a : β} {x y z : V} {oa : Option Addr} {Q : Hp → Prop} {f : List β → O ρ lam α} (hg : Γ[i]? = some (some (.own oa (.lst (xs.map e))))) (hA : At K g Γ σ ((y, .dat (eI k)) :: (x, .als i) :: (z, .dat (e a)) :: τ) H)
    (hm : Out (bindR (setR xs k a) f) N T B C E) (kk : ∀ ys H', At K g (Γ.set i (some (.own oa (.lst (ys.map e))))) σ τ H' → Out (f ys) N T B C E → Q H') : rSetL x y z H Q :=
  f_set hg hA (hm.bindR.imp (fun ys q H' h' => kk ys H' h' q) fun _ q => q)
theorem f_appm {e : β → VP} {xs : List β} {a : β} {x y : V} {oa : Option Addr} {f : List β → O ρ lam α} (hg : Γ[i]? = some (some (.own oa (.lst (xs.map e))))) (hA : At K g Γ σ ((y, .dat (e a)) :: (x, .als i) :: τ) H)
    (hm : Out (bindR (appR xs a) f) N T B C E) (kk : ∀ ys H', At K g (Γ.set i (some (.own oa (.lst (ys.map e))))) σ τ H' → Out (f ys) N T B C E → Q .non H') : rAppend x [y] H Q :=
  f_app hg hA (hm.bindR.imp (fun ys q H' h' => kk ys H' h' q) fun _ q => q)
theorem x_app {rr : V → List V → Hp → VK → Prop} {xs : List β} {e : β → VP} {oa : Option Addr} (hg : Γ[i]? = some (some (.own oa (.lst (xs.map e))))) (hA : At K g Γ σ τ H) (h : ∀ x H1, At K g Γ σ ((x, .als i) :: τ) H1 → ta σ H1 fun y H2 => rr x [y] H2 Q) : tBM K "list" rr (tVar i) (tCons ta tNil) σ H Q :=
  x_bm1 <| ev_own hg g σ τ H _ hA fun x H1 ⟨S, h1⟩ => ⟨h1.tyL List.mem_cons_self (.als hg), h x H1 ⟨S, h1⟩⟩
end
/-! ### the text's top -/
structure Df (K : PySem.W.Frag) (mg : Str → Option Value) (x : Str) (st : Stmt) (f : Addr) (fd : FuncData) (pn : List Str) : Prop where
  F : Fun K x x st f fd
  g : mg x = some (.ref f)
  b : Binds K fd pn []
structure Ex1 (K : PySem.W.Frag) (mg : Str → Option Value) (cn q : Str) (fld : List Str) (st : Stmt) (C fI : Addr) (fd : FuncData) : Prop where
  oex : OexC K C
  g : mg cn = some (.ref C)
  iC : PySem.W.findIn K (.ref C) "__init__" = some (some (.ref fI))
  tI : PySem.W.typeIn K (.ref fI) = some (.type "function")
  F : Fun K "__init__" q st fI fd
  b : Binds K fd ("self" :: fld) []
  no : ∀ f ∈ fld, PySem.W.findIn K (.ref C) f = some none
  xf : XfC K C
end Gv

set_option Elab.async false
set_option linter.all false
set_option maxRecDepth 100000
set_option maxHeartbeats 2000000
/-! Gv: enumerate of a list or tuple; sorted pairs -/
namespace Gv
open PySem L2 PyProof.Rows
open Sem (wp)
/-! ### enumerate(v): its two cells -/
theorem meets_enum1 {v : Value} {o : Obj} {Hh : Heap → Prop} (B : Begins v o Hh) :
    Meets (Builtin.«enumerate.__new__» ⟨[.type "enumerate", v], []⟩) (fun _ R s => Hh s.heap ∧
      R (.ok (.ret (.ref (s.heap.push o).objs.size))) { s with heap := (s.heap.push o).push { cls := .type "enumerate", data := .fields #[.none, .bool false, .ref s.heap.objs.size, rawInt 0, .none, .none] } }) := by
  refine .of_wp fun prog w A R s h => ?_
  obtain ⟨hp, g, d, tk, os⟩ := s
  obtain ⟨h1, h⟩ := h
  have hs := sub_enumerate
  have q1 : ∀ {A2 : Around} {E : Value → Shared → Prop} {Q : Value → Shared → Prop}, Q (.ref hp.objs.size) ⟨hp.push o, g, d, tk, os⟩ → wpAny (model prog w) A2 (pyIter v) Q E ⟨hp, g, d, tk, os⟩ := fun q => B.iter prog w _ _ ⟨hp, g, d, tk, os⟩ _ h1 q
  wp_walk using q1
  refine wpAny_stack_any fun st => wpAny_pure ?_
  split
  · rename_i c _ _ _ _ _
    cases (c == Value.type "enumerate") <;> (wp_walk using q1; exact ⟨_, rfl, h⟩)
  · wp_walk using q1
    exact ⟨_, rfl, h⟩
theorem enum1_call {prog : Program} {w : World} {A : Around} {E : Value → Shared → Prop} {s : Shared} {v : Value} {o : Obj} {Hh : Heap → Prop} {Q : Value → Shared → Prop} (B : Begins v o Hh) (h1 : Hh s.heap)
    (h : ∀ h', IsEnum h' (s.heap.objs.size + 1) s.heap.objs.size 0 .none → h'.get? s.heap.objs.size = some o → (∀ b o, s.heap.get? b = some o → h'.get? b = some o) → Q (.ref (s.heap.objs.size + 1)) { s with heap := h' }) :
    wpAny (model prog w) A (call (.type "enumerate") [v]) Q E s := by
  refine callType_new F.called_enumerate (by decide) (F.typeCall_enumerate_1 _) (F.newCall_enumerate_1 _) (fun obj => F.args_object_init_2 obj _) F.entry_enumerate_new (meets_enum1 B) ⟨h1, ?_⟩
  have z : (s.heap.push o).objs.size = s.heap.objs.size + 1 := Heap.size_push ..
  show _ ∧ _
  rw [z]
  have e1 : IsEnum ((s.heap.push o).push { cls := .type "enumerate", data := .fields #[.none, .bool false, .ref s.heap.objs.size, rawInt 0, .none, .none] }) (s.heap.objs.size + 1) s.heap.objs.size 0 .none := by
    have q := Heap.get?_push_size (s.heap.push o) (o := { cls := .type "enumerate", data := .fields #[.none, .bool false, .ref s.heap.objs.size, rawInt 0, .none, .none] }) rfl
    rw [z] at q
    exact q
  exact ⟨⟨_, e1, rfl⟩, h _ e1 (Heap.get?_push_of_some _ (Heap.get?_push_size _ B.free)) fun b o q => Heap.get?_push_of_some _ (Heap.get?_push_of_some _ q)⟩
/-- the tuple at a, each item in a new pair -/
def IteT (K : PySem.W.Frag) (a : Addr) : It :=
  ⟨fun i H => ∃ (xs : List V) (x : V), SqT K H a xs ∧ xs[i]? = some x, fun i H v H' => ∃ T x, v = .ref T ∧ H T = none ∧ H' = upd H T (.tup [.int (i : Nat), x]) ∧ ∀ xs, SqT K H a xs → xs[i]? = some x, fun i H => ∃ xs : List V, SqT K H a xs ∧ xs.length ≤ i⟩
theorem turn_enumT {P : Program} {w : World} {K : PySem.W.Frag} {elts : List Expr} {kk : Nat} {tpos : Pos} (a e it : Addr) :
    Turn P w K (.Tuple elts kk tpos) (IteT K a) [e, it] e (fun i h => (∃ old, IsEnum h e it ((i : Nat) : Int) old) ∧ h.IsTupleIter it a i ∧ e ≠ it) := by
  have apart : ∀ {h : Heap} {i : Nat} {c : Int} {old : Value} {its : Array Value}, IsEnum h e it c old → h.IsTupleIter it a i → h.IsTuple a its → e ∉ [it, a] ∨ e = it := fun {h i c old its} h1 h2 h3 => by
    by_cases z : e = it
    · exact .inr z
    · refine .inl fun hm => ?_
      rcases List.mem_cons.mp hm with q | q
      · exact z q
      · have q2 : e = a := by simpa using q
        obtain ⟨o, ho, hc, _⟩ := h3
        rw [← q2] at ho
        have h1' : h.get? e = _ := h1
        rw [h1'] at ho
        cases ho
        have : ("enumerate" : String) = "tuple" := by injection hc
        exact absurd this (by decide)
  have ne2 : ∀ {h : Heap} {i : Nat} {its : Array Value}, h.IsTupleIter it a i → h.IsTuple a its → a ≠ it := fun {h i its} h2 h3 z => by
    obtain ⟨o, ho, hc, _⟩ := h3
    obtain ⟨o2, ho2, hc2, _⟩ := h2
    rw [z, ho2] at ho
    cases ho
    rw [hc2] at hc
    have : ("tuple_iterator" : String) = "tuple" := by injection hc
    exact absurd this (by decide)
  refine ⟨by simp, fun i h st b hb => ?_, fun i h h' st k => ?_, ?_, ?_, fun A i s Q E st h => ?_⟩
  · obtain ⟨⟨old, he⟩, ⟨o, ho, hc, hd⟩, _⟩ := st
    rcases (show b = e ∨ b = it by simpa using hb) with z | z
    · rw [z]
      exact ⟨_, he, fun v q => nomatch q⟩
    · rw [z]
      exact ⟨o, ho, fun v q => by rw [hd] at q; cases q⟩
  · obtain ⟨⟨old, he⟩, hi, hne⟩ := st
    exact ⟨⟨old, k e (by simp) _ he⟩, hi.at fun o q => k it (by simp) o q, hne⟩
  · intro X hP hw hK hc i pins s σ H E I hf st hg
    subst hP hw hK
    obtain ⟨⟨old, he⟩, hit, hne⟩ := st
    obtain ⟨xs, x, hq, hx⟩ := hg
    obtain ⟨its, rv, p, hz⟩ := I.tuple hq
    obtain ⟨u, hu, ru⟩ := rv.get hx
    have hlt : i < its.toArray.size := by
      have := (List.getElem?_eq_some_iff.mp hu).1
      simpa using this
    have hel : e < s.heap.objs.size := Heap.lt_size he
    have hil : it < s.heap.objs.size := by obtain ⟨_, q, _⟩ := hit; exact Heap.lt_size q
    have D := Draws.tuple (prog := X.prog) (w := X.w) (A := X.A.in1) (I.ok.hd hc) it a (ne2 hit p) its.toArray
    refine wpAny_pyNext_enum_itemD D he ⟨hit, p⟩ hlt hne ((apart he hit p).resolve_right hne) fun y h' tk hy ho hst hT hsz hk => ?_
    have ey : y = u := by
      have : its.toArray[i]? = some u := by simpa using hu
      rw [this] at hy
      exact (Option.some.inj hy).symm
    subst ey
    refine ⟨_, rfl, wpAny_letOwnedTupleGo_enum (s := { s with heap := h', toks := tk + 1 }) ho fun h2 he2 sb => ?_⟩
    have hT2 : h2.get? s.heap.objs.size = some { cls := .type "tuple", data := .seq #[.int i tk, y] } := (sb.2 _ (Nat.ne_of_gt hel)).trans hT
    have new : ObjOk X.prog X.w (upd H s.heap.objs.size (.tup [.int (i : Nat), x])) h2 s.heap.objs.size (.tup [.int (i : Nat), x]) :=
      ⟨by show 2 ≤ sizeLine; decide, [.int i tk, y], .cons ⟨_, rfl⟩ (.cons ru .nil), ⟨_, hT2, rfl, _, rfl⟩⟩
    have keep2 : ∀ b ob, b ∉ [e, it] → s.heap.get? b = some ob → h2.get? b = some ob := fun b ob hb q => by
      have b1 : b ≠ e := fun z => hb (by simp [z])
      have b2 : b ≠ it := fun z => hb (by simp [z])
      exact (sb.2 b b1).trans (hk b ob b1 b2 q)
    have I1 : Inv X pins σ (upd H s.heap.objs.size (.tup [.int (i : Nat), x])) { s with heap := h2, toks := tk + 1 } := I.turnedNew (ch := [e, it]) keep2 hf (Nat.le_refl _) new
    refine ⟨.ref s.heap.objs.size, _, I1, rfl, ⟨_, x, rfl, I.hok.fresh (Nat.le_refl _), rfl, fun ys hy => by rw [I.tuple_inj hy hq]; exact hx⟩, ⟨⟨y, ?_⟩, hst.1.at fun o q => (sb.2 it (Ne.symm hne)).trans q, hne⟩, fun b hb => ?_⟩
    · have e1 : ((i + 1 : Nat) : Int) = (i : Int) + 1 := by omega
      rw [e1]
      exact he2
    · have small : b < s.heap.objs.size := by
        rcases (show b = e ∨ b = it by simpa using hb) with z | z
        · rw [z]; exact hel
        · rw [z]; exact hil
      rw [upd_ne (Nat.ne_of_lt small)]
      exact (hf b hb).1
  · intro X hP hw hK hc i pins s σ H E I hf st hg
    subst hP hw hK
    obtain ⟨⟨old, he⟩, hit, hne⟩ := st
    obtain ⟨xs, hq, hx⟩ := hg
    obtain ⟨its, rv, p, hz⟩ := I.tuple hq
    obtain ⟨f0, f1, f2, f3, f4, f5⟩ := hf it (by simp)
    have hl := rv.length
    have T : s.TypeIs (.ref e) "enumerate" := ⟨_, he, rfl⟩
    unfold pyNext
    refine wpAny_bind (wpAny_attempt (wpAny_callSpecial?_slot (name := Str.ofString "__next__") T F.slot_enumerate_next (wpAny_call_entry F.slot_enumerate_next T F.entry_enumerate_next ?_ (F.args_enumerate_next_1 _))))
    show wpAny _ _ (field (.ref e) 2 >>= _) _ _ _
    refine wpAny_bind (wpAny_field he rfl (x := .ref it) rfl ?_)
    refine wpAny_bind (wpAny_nextOf_tuple_end (I.ok.hd hc) hit p (by simp; omega) fun h' x he' hx' => ?_)
    obtain ⟨o, ho, hcl⟩ := hx'
    refine wpAny_bind (wpAny_isInstance (T := "StopIteration") (b := true) ⟨o, ho, hcl⟩ isSubtype_stop ?_)
    exact wpAny_pure ⟨rfl, I.turned (t' := s.toks) (fun b o hb q => he' b o hb q) f0 f1 f3 f4 f5⟩
  · obtain ⟨⟨_, he⟩, _⟩ := st
    exact wpAny_pyIter_enum he h
/-- enumerate(v), v a list or a tuple -/
def iEnumQ (K : PySem.W.Frag) (tl : TE) : TI := fun σ H R => tl σ H fun v H1 => (∃ a, v = .ref a ∧ (∃ xs, SqL K H1 a xs) ∧ R (Ite K a) H1) ∨ (∃ a, v = .ref a ∧ (∃ xs, SqT K H1 a xs) ∧ R (IteT K a) H1)
theorem pi_enumQ {X : Cx} {e : Expr} {tl : TE} {p pos tpos : Pos} {elts : List Expr} {kk : Nat} (hg : Gl X "enumerate") (hm : X.mg "enumerate" = none) (he : PE X e tl) (hs : starEach [e] X.env = [(false, eval e X.env)] := by rfl) :
    PI X (.Tuple elts kk tpos) (.Call (.Name "enumerate" p) [e] [] pos) (iEnumQ X.K tl) := by
  refine ⟨fun pins s σ H R I h => ?_⟩
  have ha : PA X [e] (tCons tl tNil) := pa_cons he pa_nil (by rw [hs]; rfl)
  have h2 : (tCons tl tNil) σ H fun vs H1 => ∃ v, vs = [v] ∧ ((∃ a, v = V.ref a ∧ (∃ xs, SqL X.K H1 a xs) ∧ R (Ite X.K a) H1) ∨ (∃ a, v = V.ref a ∧ (∃ xs, SqT X.K H1 a xs) ∧ R (IteT X.K a) H1)) := by
    show tl σ H fun v H1 => ∃ v', [v] = [v'] ∧ _
    have eq : (fun v H1 => ∃ v', [v] = [v'] ∧ ((∃ a, v' = V.ref a ∧ (∃ xs, SqL X.K H1 a xs) ∧ R (Ite X.K a) H1) ∨ (∃ a, v' = V.ref a ∧ (∃ xs, SqT X.K H1 a xs) ∧ R (IteT X.K a) H1))) = fun v H1 => (∃ a, v = V.ref a ∧ (∃ xs, SqL X.K H1 a xs) ∧ R (Ite X.K a) H1) ∨ (∃ a, v = V.ref a ∧ (∃ xs, SqT X.K H1 a xs) ∧ R (IteT X.K a) H1) := by
      funext v H1
      apply propext
      constructor
      · rintro ⟨v', e1, q⟩
        cases e1
        exact q
      · exact fun q => ⟨v, rfl, q⟩
    rw [eq]
    exact h
  refine Call_ (ld_blt I hg hm boot_enumerate (PyProof.Rows.callWith_type1 (thn (ha.run pos pins s σ H _ I h2) fun us s1 hw => ?_) hs rfl))
  obtain ⟨vs, H1, I1, r1, v, ev, q1⟩ := hw
  subst ev
  cases r1 with
  | cons r rr =>
    cases rr
    have fresh : ∀ b ∈ [s1.heap.objs.size + 1, s1.heap.objs.size], FpOk X pins H1 b := fun b hb => by
      have hle : s1.heap.objs.size ≤ b := by
        rcases (show b = s1.heap.objs.size + 1 ∨ b = s1.heap.objs.size by simpa using hb) with z | z
        · rw [z]; exact Nat.le_add_right _ _
        · rw [z]; exact Nat.le_refl _
      exact I1.fpOk hle (I1.hok.fresh hle)
    rcases q1 with ⟨a, ea, ⟨ws, hq⟩, q⟩ | ⟨a, ea, ⟨ws, hq⟩, q⟩
    · rw [ea] at r
      cases r
      obtain ⟨its, rv, pl, hz⟩ := I1.list hq
      refine enum1_call (begins_list a its.toArray) pl.isList fun h' h1 h2 hk => wpAny_pyIter_enum h1 ?_
      exact ⟨s1.heap.objs.size + 1, [s1.heap.objs.size + 1, s1.heap.objs.size], _, _, H1, rfl, I1.kept (t' := s1.toks) hk, turn_enum a (s1.heap.objs.size + 1) s1.heap.objs.size, ⟨⟨.none, h1⟩, ⟨_, h2, rfl, rfl⟩, Nat.succ_ne_self _⟩, fresh, q⟩
    · rw [ea] at r
      cases r
      obtain ⟨its, rv, pt, hz⟩ := I1.tuple hq
      refine enum1_call (begins_tuple a its.toArray) pt fun h' h1 h2 hk => wpAny_pyIter_enum h1 ?_
      exact ⟨s1.heap.objs.size + 1, [s1.heap.objs.size + 1, s1.heap.objs.size], _, _, H1, rfl, I1.kept (t' := s1.toks) hk, turn_enumT a (s1.heap.objs.size + 1) s1.heap.objs.size, ⟨⟨.none, h1⟩, ⟨_, h2, rfl, rfl⟩, Nat.succ_ne_self _⟩, fresh, q⟩
end Gv

set_option Elab.async false
set_option linter.all false
set_option maxRecDepth 100000
set_option maxHeartbeats 2000000
/-! Gv: enumerate walked; pairs of ints that stand as they were laid; sorted of such -/
namespace Gv
open PySem L2
/-! ### sorted pairs, in plain Lean -/
def insP (x : Int × Int) : List (Int × Int) → List (Int × Int)
  | [] => [x]
  | y :: ys => if SrtO.lexB y x then y :: insP x ys else x :: y :: ys
def sortP : List (Int × Int) → List (Int × Int)
  | [] => []
  | x :: xs => insP x (sortP xs)
theorem insP_perm (x : Int × Int) : ∀ l : List (Int × Int), (insP x l).Perm (x :: l)
  | [] => .refl _
  | y :: ys => by
    unfold insP
    split
    · exact ((insP_perm x ys).cons y).trans (.swap _ _ _)
    · exact .refl _
theorem sortP_perm : ∀ l : List (Int × Int), (sortP l).Perm l
  | [] => .refl _
  | x :: xs => (insP_perm x (sortP xs)).trans ((sortP_perm xs).cons x)
theorem insP_sorted (x : Int × Int) : ∀ l : List (Int × Int), SrtO.Srtd SrtO.lexB l → SrtO.Srtd SrtO.lexB (insP x l)
  | [], _ => List.pairwise_singleton _ _
  | y :: ys, h => by
    obtain ⟨h1, h2⟩ := List.pairwise_cons.mp h
    unfold insP
    split
    · rename_i e
      refine List.pairwise_cons.mpr ⟨fun z hz => ?_, insP_sorted x ys h2⟩
      rcases List.mem_cons.mp ((insP_perm x ys).mem_iff.mp hz) with rfl | hz
      · have := SrtO.lexB_iff.mp e
        exact SrtO.lexB_no.mpr (by omega)
      · exact h1 z hz
    · rename_i e
      have e' := SrtO.lexB_no.mp (by simpa using e)
      refine List.pairwise_cons.mpr ⟨fun z hz => ?_, h⟩
      rcases List.mem_cons.mp hz with rfl | hz
      · exact SrtO.lexB_no.mpr e'
      · have q := SrtO.lexB_no.mp (h1 z hz)
        exact SrtO.lexB_no.mpr (by omega)
theorem sortP_sorted : ∀ l : List (Int × Int), SrtO.Srtd SrtO.lexB (sortP l)
  | [] => .nil
  | x :: xs => insP_sorted x _ (sortP_sorted xs)
theorem lex_uniq : ∀ {l m : List (Int × Int)}, l.Perm m → SrtO.Srtd SrtO.lexB l → SrtO.Srtd SrtO.lexB m → l = m
  | [], m, p, _, _ => (List.Perm.nil_eq p)
  | x :: l, [], p, _, _ => absurd p.length_eq (by simp)
  | x :: l, y :: m, p, hl, hm => by
    obtain ⟨l1, l2⟩ := List.pairwise_cons.mp hl
    obtain ⟨m1, m2⟩ := List.pairwise_cons.mp hm
    have e : x = y := by
      rcases List.mem_cons.mp (p.mem_iff.mp List.mem_cons_self) with e | hx
      · exact e
      · rcases List.mem_cons.mp (p.mem_iff.mpr List.mem_cons_self) with e | hy
        · exact e.symm
        · have a := SrtO.lexB_no.mp (m1 x hx)
          have b := SrtO.lexB_no.mp (l1 y hy)
          obtain ⟨x1, x2⟩ := x
          obtain ⟨y1, y2⟩ := y
          simp only at a b
          have : x1 = y1 := by omega
          have : x2 = y2 := by omega
          simp_all
    subst e
    rw [lex_uniq p.cons_inv l2 m2]
/-- a pair of ints that stands as it was laid -/
def eQ (x : Int × Int) : VP := fun _ v S => ∃ a, v = .ref a ∧ S a = some (.tup [.int x.1, .int x.2])
def enumL {β : Type} (xs : List β) : List (Int × β) := xs.zipIdx.map fun p => ((p.2 : Int), p.1)
theorem enumL_len {β : Type} (xs : List β) : (enumL xs).length = xs.length := by unfold enumL; rw [List.length_map, List.length_zipIdx]
theorem enumL_get {β : Type} {xs : List β} {i : Nat} {b : Int × β} (h : (enumL xs)[i]? = some b) : b.1 = (i : Nat) ∧ xs[i]? = some b.2 := by
  unfold enumL at h
  rw [List.getElem?_map, List.getElem?_zipIdx] at h
  cases e : xs[i]? with
  | none => rw [e] at h; cases h
  | some y =>
    rw [e] at h
    simp only [Option.map_some, Option.some.injEq] at h
    subst h
    exact ⟨by simp, rfl⟩
section
variable {K : PySem.W.Frag} {ρ lam α β γ : Type} {X : Fx ρ} {Γ : List (Option Tm)} {g : Gh} {S H : Hp} {σ : St} {τ : List (V × Tm)} {v x y : V} {t u z : Tm} {i j : Nat} {ta tb tc te : TE} {r r' : R2} {Q : VK} {N : α → Prop} {T : ρ → Prop} {B C : lam → Prop} {E : Er → Prop}
  {e : β → VP} {xs : List β} {Rk : It → Hp → Prop}
theorem eQ_p {x : Int × Int} (h : Hd K (eQ x) v S) : Hd K (eP2 eI eI x) v S := by
  obtain ⟨S0, e0, a, rfl, h1⟩ := h
  exact ⟨S0, e0, a, _, rfl, SqT.of h1, .cons (.of rfl) (.cons (.of rfl) .nil)⟩
theorem f_tupQ {a b : Int} (hA : At K g Γ σ ((y, .dat (eI b)) :: (x, .dat (eI a)) :: τ) H) (k : ∀ v H', At K g Γ σ ((v, .dat (eQ (a, b))) :: τ) H' → Q v H') : TupK Q [x, y] H := by
  obtain ⟨S, h⟩ := hA
  have e1 : y = V.int b := h.top.i
  have e2 : x = V.int a := h.pop.top.i
  subst e1 e2
  exact ⟨by show 2 ≤ sizeLine; decide, fun p hp => k _ _ ⟨_, (h.pop.pop.lay hp).push (.of ⟨p, rfl, upd_same⟩)⟩⟩
theorem hds_q {kf : V → Int × Int} : ∀ {xs : List (Int × Int)} {vs : List V}, Hds K S (xs.map eQ) vs → Same S H → (∀ t i j, H t = some (.tup [.int i, .int j]) → kf (.ref t) = (i, j)) → xs = vs.map kf ∧ ∀ v ∈ vs, ∃ t, v = V.ref t ∧ S t = some (.tup [.int (kf v).1, .int (kf v).2])
  | [], _, .nil, _, _ => ⟨rfl, fun v h => nomatch h⟩
  | x :: xs, _, .cons r t, hs, hk => by
    obtain ⟨q1, q2⟩ := hds_q (xs := xs) t hs hk
    obtain ⟨S0, e0, a, ea, h1⟩ := r
    have h2 := e0 _ _ h1
    have h3 := hk a _ _ (hs _ _ h2)
    refine ⟨?_, fun v hv => ?_⟩
    · rw [List.map_cons, ea, h3, ← q1]
    · rcases List.mem_cons.mp hv with rfl | hv
      · exact ⟨a, ea, by rw [ea, h3]; exact h2⟩
      · exact q2 v hv
theorem q_hds {kf : V → Int × Int} : ∀ {vs : List V}, (∀ v ∈ vs, ∃ t, v = V.ref t ∧ S t = some (.tup [.int (kf v).1, .int (kf v).2])) → Hds K S ((vs.map kf).map eQ) vs
  | [], _ => .nil
  | v :: vs, h => by
    obtain ⟨t, e, q⟩ := h v List.mem_cons_self
    exact .cons (.of ⟨t, e, q⟩) (q_hds fun w hw => h w (List.mem_cons_of_mem _ hw))
/-- sorted(xs) of pairs of ints -/
theorem o1_sortedQ {xs : List (Int × Int)} (hl : IsL Γ t (xs.map eQ)) : O1 K Γ (fun x => rSortedPO K [x]) t (.own none (.lst ((sortP xs).map eQ))) := fun g σ τ H x Q ⟨S, h⟩ k => by
  obtain ⟨a, vs, rfl, h2, h3⟩ := h.isL List.mem_cons_self hl
  let kf : V → Int × Int := fun v => match v with
    | .ref t => match H t with
      | some (.tup [.int i, .int j]) => (i, j)
      | _ => (0, 0)
    | _ => (0, 0)
  have hk : ∀ t i j, H t = some (.tup [.int i, .int j]) → kf (.ref t) = (i, j) := fun t i j e => by
    show (match H t with
      | some (.tup [.int i, .int j]) => (i, j)
      | _ => (0, 0)) = (i, j)
    rw [e]
  obtain ⟨q1, q2⟩ := hds_q (kf := kf) h3 h.base.sh hk
  refine ⟨a, vs, kf, rfl, h2, fun v hv => ?_, fun ys p h1 hst hn => k _ _ ⟨S, h.pop.fresh hn ⟨ys, rfl, ?_⟩⟩⟩
  · obtain ⟨t, e, q⟩ := q2 v hv
    exact ⟨t, e, h.base.sh _ _ q⟩
  · have e : sortP xs = ys.map kf := by
      refine lex_uniq ((sortP_perm xs).trans ?_) (sortP_sorted xs) (SrtO.srtd_map h1)
      rw [q1]
      exact (hst.perm.map kf).symm
    rw [e]
    exact q_hds fun v hv => q2 v (hst.perm.mem_iff.mp hv)
/-! ### enumerate walked -/
theorem walk_enumT {a : Addr} {vs : List V} : Walk (IteT K a) vs.length (fun H => SqT K H a vs) (YPair (fun i => some (.int (i : Nat))) (fun i => vs[i]?)) := by
  refine ⟨fun i _ hi q => ⟨vs, vs[i], q, by simp [hi]⟩, fun _ q => ⟨vs, q, Nat.le_refl _⟩, fun i H v H' _ q y => ?_⟩
  obtain ⟨T, x, h1, h2, h3, h4⟩ := y
  exact ⟨T, .int (i : Nat), x, h1, h2, h3, rfl, h4 vs q⟩
theorem enum_yield {g : Gh} {S : Hp} {vs : List V} (h3 : Hds K S (xs.map e) vs) (hS : Same S g.S0) : ∀ (i : Nat) (b : Int × β) (x : V) (H1 H2 : Hp) (Γ' : List (Option Tm)) (σ' : St) (τ' : List (V × Tm)), (enumL xs)[i]? = some b →
    YPair (fun i => some (.int (i : Nat))) (fun i => vs[i]?) i H1 x H2 → At K g Γ' σ' τ' H1 → At K g Γ' σ' ((x, .dat (eP2 eI e b)) :: τ') H2 := fun i b x H1 H2 Γ' σ' τ' hb hy ⟨S2, hA2⟩ => by
  obtain ⟨T, y, w, rfl, hn, rfl, e1, e2⟩ := hy
  obtain ⟨b1, b2⟩ := enumL_get hb
  have e1' : y = V.int (i : Nat) := (Option.some.inj e1).symm
  obtain ⟨w2, w3, w4⟩ := h3.get (show (xs.map e)[i]? = some (e b.2) by rw [List.getElem?_map, b2]; rfl)
  have e2' : vs[i]? = some w := e2
  rw [e2'] at w3
  cases w3
  subst e1'
  refine hA2.newT hn (ps := [eI b.1, e b.2]) (.cons (.of ?_) (.cons ((w4.mono hS).mono hA2.base.s0) .nil))
  show V.int _ = V.int _
  rw [b1]
theorem wk_enumL (hA : At K g Γ σ ((v, .dat (eL e xs)) :: τ) H) (hm : WK K g Γ σ τ (enumL xs) (eP2 eI e) Rk) : ∃ a, v = .ref a ∧ (∃ xs, SqL K H a xs) ∧ Rk (Ite K a) H := by
  obtain ⟨S, h⟩ := hA
  obtain ⟨a, vs, rfl, h2, h3⟩ := Hd.l h.top
  have hl : vs.length = (enumL xs).length := by rw [enumL_len, h3.len, List.length_map]
  exact ⟨a, rfl, ⟨vs, h.base.sh.seq h2⟩, hm (Ite K a) (fun H => SqL K H a vs) _ S H (by rw [← hl]; exact walk_enum) h.base.s0 h.base.fs ⟨S, h.pop.reS⟩ (fun S2 H2 B => B.reS.seq h2) (enum_yield h3 (Same.refl _))⟩
theorem wk_enumT (hA : At K g Γ σ ((v, .dat (eT e xs)) :: τ) H) (hm : WK K g Γ σ τ (enumL xs) (eP2 eI e) Rk) : ∃ a, v = .ref a ∧ (∃ xs, SqT K H a xs) ∧ Rk (IteT K a) H := by
  obtain ⟨S, h⟩ := hA
  obtain ⟨a, vs, rfl, h2, h3⟩ := Hd.t h.top
  have hl : vs.length = (enumL xs).length := by rw [enumL_len, h3.len, List.length_map]
  exact ⟨a, rfl, ⟨vs, same_t h.base.sh h2⟩, hm (IteT K a) (fun H => SqT K H a vs) _ S H (by rw [← hl]; exact walk_enumT) h.base.s0 h.base.fs ⟨S, h.pop.reS⟩ (fun S2 H2 B => same_t B.reS h2) (enum_yield h3 (Same.refl _))⟩
theorem wk_enumD {d : PyData} {F : List PyData → O ρ lam α} (hA : At K g Γ σ ((v, .dat (eD d)) :: τ) H) (hm : Out (bindR (itemsD d) F) N T B C E) (k : ∀ xs, Out (F xs) N T B C E → WK K g Γ σ τ (enumL xs) (eP2 eI eD) Rk) :
    (∃ a, v = .ref a ∧ (∃ xs, SqL K H a xs) ∧ Rk (Ite K a) H) ∨ (∃ a, v = .ref a ∧ (∃ xs, SqT K H a xs) ∧ Rk (IteT K a) H) :=
  f_items hA hm fun xs h hm => h.elim (fun h => .inl (wk_enumL h (k xs hm))) fun h => .inr (wk_enumT h (k xs hm))
theorem wk_enumQL (hA : At K g Γ σ ((v, .dat (eL e xs)) :: τ) H) (hm : WK K g Γ σ τ (enumL xs) (eP2 eI e) Rk) : (∃ a, v = .ref a ∧ (∃ xs, SqL K H a xs) ∧ Rk (Ite K a) H) ∨ (∃ a, v = .ref a ∧ (∃ xs, SqT K H a xs) ∧ Rk (IteT K a) H) := .inl (wk_enumL hA hm)
theorem wk_enumQT (hA : At K g Γ σ ((v, .dat (eT e xs)) :: τ) H) (hm : WK K g Γ σ τ (enumL xs) (eP2 eI e) Rk) : (∃ a, v = .ref a ∧ (∃ xs, SqL K H a xs) ∧ Rk (Ite K a) H) ∨ (∃ a, v = .ref a ∧ (∃ xs, SqT K H a xs) ∧ Rk (IteT K a) H) := .inr (wk_enumT hA hm)
variable {tg : TG} {tb' us : TS} {D : Ends} {tl : TE} {tt : TT} {vs : List Nat}
theorem x_forE (h : tl σ H fun v H1 => (∃ a, v = .ref a ∧ (∃ xs, SqL K H1 a xs) ∧ FR tg tb' us D σ (Ite K a) H1) ∨ (∃ a, v = .ref a ∧ (∃ xs, SqT K H1 a xs) ∧ FR tg tb' us D σ (IteT K a) H1)) : tSeq (tFor (iEnumQ K tl) tg tb') us D σ H := h
theorem x_lcE (h : tl σ H fun v H1 => (∃ a, v = .ref a ∧ (∃ xs, SqL K H1 a xs) ∧ LR tg tt te vs σ Q (Ite K a) H1) ∨ (∃ a, v = .ref a ∧ (∃ xs, SqT K H1 a xs) ∧ LR tg tt te vs σ Q (IteT K a) H1)) : tLc (iEnumQ K tl) tg tt te vs σ H Q := h
/-- a tuple's items boxed -/
theorem hds_box {d : β → PyData} (h : Bx e d) : ∀ {xs : List β} {vs : List V}, Hds K S (xs.map e) vs → Hds K S ((xs.map d).map eD) vs
  | [], _, .nil => .nil
  | x :: xs, _, .cons r t => .cons (Bx.hd h _ _ r) (hds_box h t)
theorem boxT {d : β → PyData} (h : Bx e d) {xs : List β} : ∀ v S, Hd K (eT e xs) v S → Hd K (eT eD (xs.map d)) v S := fun v S q => by
  obtain ⟨a, vs, rfl, h2, h3⟩ := Hd.t q
  exact .of ⟨a, vs, rfl, h2, hds_box h h3⟩
theorem boxL {d : β → PyData} (h : Bx e d) {xs : List β} : ∀ v S, Hd K (eL e xs) v S → Hd K (eL eD (xs.map d)) v S := fun v S q => by
  obtain ⟨a, vs, rfl, h2, h3⟩ := Hd.l q
  exact .of ⟨a, vs, rfl, h2, hds_box h h3⟩
end
/-! ### the law's own head -/
def spLaw (K : PySem.W.Frag) (n : Nat) : Sp := fun vs H Q E => ∃ (a : Addr) (ns : List Int), vs = [V.ref a] ∧ SqL K H a (ns.map V.int) ∧ ns.length ≤ n ∧ ∀ H', Q (.bl true) H'
theorem ints_hds {K : PySem.W.Frag} {S : Hp} : ∀ ns : List Int, Hds K S (ns.map eI) (ns.map V.int)
  | [] => .nil
  | n :: ns => .cons (.of rfl) (ints_hds ns)
theorem law_sp {K : PySem.W.Frag} {EC : Str → Addr} {n : Nat} {m : List Int → R Bool} {post : Bool → List Addr → List (Option Tm)} (h : ∀ ns, ns.length ≤ n → m ns = .nx true) {vs : List V} {H : Hp} {Q : VK} {E : XK} (q : spLaw K n vs H Q E) :
    Spec K EC 1 (fun a _ => [some (.dat (eL eI a))]) m post (fun r => .dat (eB r)) vs H Q E := by
  obtain ⟨a, ns, rfl, hS, hl, k⟩ := q
  refine ⟨rfl, ns, [], ⟨H, H⟩, rfl, ⟨H, ⟨Same.refl H, Same.refl H, Same.refl H, fun b h1 h2 => h2⟩, Nat.le_refl _, fun x hx => ?_, fun x hx j => ?_, fun x hx => (nomatch hx), ?_⟩, ?_⟩
  · have : x = (V.ref a, Tm.dat (eL eI ns)) := by simpa [pack] using hx
    subst this
    exact .of ⟨a, _, rfl, hS, ints_hds ns⟩
  · have : x = (V.ref a, Tm.dat (eL eI ns)) := by simpa [pack] using hx
    subst this
    exact fun z => nomatch z
  · simp [pack, addrs]
  · rw [h ns hl]
    intro v H' σ' ⟨S, hA⟩
    rw [show v = V.bl true from hA.top.b]
    exact k H'
def strD : PyData → R Str
  | .str x => .nx x
  | _ => .stuck
def boolD : PyData → R Bool
  | .bool x => .nx x
  | _ => .stuck
section
variable {K : PySem.W.Frag} {ρ lam α : Type} {Γ : List (Option Tm)} {g : Gh} {H : Hp} {σ : St} {τ : List (V × Tm)} {v : V} {N : α → Prop} {T : ρ → Prop} {B C : lam → Prop} {E : Er → Prop} {P : Prop}
theorem f_str {d : PyData} {f : Str → O ρ lam α} (hA : At K g Γ σ ((v, .dat (eD d)) :: τ) H) (hm : Out (bindR (strD d) f) N T B C E) (k : ∀ i, At K g Γ σ ((v, .dat (eS i)) :: τ) H → Out (f i) N T B C E → P) : P := by
  cases d with
  | str i =>
    refine k i (hA.box fun v S q => ?_) hm
    obtain ⟨S0, e, q⟩ := q
    have q : Dp K S0 v (.str i) := q
    cases q
    exact .of rfl
  | _ => exact hm.elim
theorem f_boolD {d : PyData} {f : Bool → O ρ lam α} (hA : At K g Γ σ ((v, .dat (eD d)) :: τ) H) (hm : Out (bindR (boolD d) f) N T B C E) (k : ∀ i, At K g Γ σ ((v, .dat (eB i)) :: τ) H → Out (f i) N T B C E → P) : P := by
  cases d with
  | bool i =>
    refine k i (hA.box fun v S q => ?_) hm
    obtain ⟨S0, e, q⟩ := q
    have q : Dp K S0 v (.bool i) := q
    cases q
    exact .of rfl
  | _ => exact hm.elim
end
theorem pe_gk {X : Cx} {v : V} {x : Str} {pos : Pos} (hg : Gl X x) (h : ∃ u, X.mg x = some u ∧ RelV v u) (hd : (x == ("__debug__" : Str)) = false := by decide) : PE X (.Name x pos) (tC v) := by
  obtain ⟨u, h1, h2⟩ := h
  exact pe_glob hg h1 h2 hd
end Gv

set_option Elab.async false
set_option linter.all false
set_option maxRecDepth 100000
set_option maxHeartbeats 2000000
/-! Gv: what stands behind the top -/
namespace Gv
open PySem L2 PyProof.Rows
theorem exm_of {K : PySem.W.Frag} {S C : Addr} {b : Bool} (eC : PySem.W.subIn K (.ref C) (.type "BaseException") = some true) (iC : PySem.W.isClsIn K C = true) (tC : PySem.W.typeIn K (.ref C) = some (.type "type"))
    (h4 : PySem.W.subIn K (.ref S) (.ref C) = some b) : PySem.W.exmOne K (.ref S) (.ref C) = some b := by
  have e1 : (PySem.W.subIn K (.ref C) (.type "BaseException") == some true) = true := by rw [eC] <;> rfl
  have e2 : ((PySem.W.clsIn K C).isSome && PySem.W.typeIn K (.ref C) == some (.type "type")) = true := by
    have q : (PySem.W.clsIn K C).isSome = true := iC
    rw [q, tC] <;> rfl
  show (if (PySem.W.subIn K (.ref C) (.type "BaseException") == some true) = true then (if ((PySem.W.clsIn K C).isSome && PySem.W.typeIn K (.ref C) == some (.type "type")) = true then PySem.W.subIn K (.ref S) (.ref C) else none) else none) = some b
  rw [if_pos e1, if_pos e2]
  exact h4
end Gv

set_option Elab.async false
set_option linter.all false
set_option maxRecDepth 100000
set_option maxHeartbeats 2000000
/-! Gv: lcm, augmented assignment -/
namespace Gv
open PySem L2
/-! ### lcm -/
def rLcm : List V → Hp → VK → Prop := fun xs H Q => ∃ a b : Int, xs = [.int a, .int b] ∧ a.natAbs < 1073741824 ∧ b.natAbs < 1073741824 ∧ Q (.int ((Nat.lcm a.natAbs b.natAbs : Nat) : Int)) H
theorem lcm_small {a b : Nat} (ha : a < 1073741824) (hb : b < 1073741824) : (((Nat.lcm 1 a).lcm b : Nat) : Int).natAbs.log2 < PySem.bitsLine := by
  rw [Nat.lcm_one_left, Int.natAbs_natCast]
  have h1 : Nat.lcm a b ≤ a * b := by
    rcases Nat.eq_zero_or_pos (a * b) with h | h
    · have : Nat.lcm a b = 0 := by
        unfold Nat.lcm
        rw [h, Nat.zero_div]
      omega
    · exact Nat.le_of_dvd h (Nat.lcm_dvd_mul a b)
  have h2 : a * b < 1073741824 * 1073741824 := Nat.mul_lt_mul'' ha hb
  have h3 : (Nat.lcm a b).log2 < 64 := by
    by_cases h0 : Nat.lcm a b = 0
    · rw [h0]; decide
    · exact (Nat.log2_lt h0).mpr (by omega)
  exact Nat.lt_of_lt_of_le h3 (by decide)
theorem cr_lcm {X : Cx} : CallR X (.builtin "math.lcm") rLcm := by
  intro pins s σ H vs us Q I r h
  obtain ⟨a, b, rfl, ha, hb, q⟩ := h
  obtain ⟨t, u, rfl⟩ := Vals.int2 r
  refine PySem.W.mg_lcm (by omega) (by omega) (lcm_small ha hb) ?_
  rw [Nat.lcm_one_left]
  exact ⟨.int _, H, I.tok _, ⟨_, rfl⟩, q⟩
def lcmI (a b : Int) : R Int := gd (decide (a.natAbs < 1073741824) && decide (b.natAbs < 1073741824)) ((Nat.lcm a.natAbs b.natAbs : Nat) : Int)
section
variable {K : PySem.W.Frag} {ρ lam α β γ : Type} {X : Fx ρ} {Γ : List (Option Tm)} {g : Gh} {H : Hp} {σ : St} {τ : List (V × Tm)} {v x y : V} {t u z : Tm} {i j : Nat} {ta tb tc te : TE} {r r' : R2} {Q : VK} {N : α → Prop} {T : ρ → Prop} {B C : lam → Prop} {E : Er → Prop}
theorem o2_lcm {a b : Int} : O2M K Γ (fun x y => rLcm [x, y]) (.dat (eI a)) (.dat (eI b)) (lcmI a b) (fun c => .dat (eI c)) := At.part2 fun h => At.scal2 (fun S v w h1 h2 H Q k => by
  simp only [Bool.and_eq_true, decide_eq_true_eq] at h
  exact ⟨a, b, by rw [h1.i, h2.i], h.1, h.2, k⟩) fun _ => rfl
/-! ### x op= e -/
theorem x_aug {f : Int → Int → Int} {us : TS} {D : Ends} {a : Int} (hg : Γ[i]? = some (some (.dat (eI a)))) (hA : At K g Γ σ [] H) (h : ∀ x, At K g Γ σ [(x, .dat (eI a))] H → te σ H fun y H1 => ipI f x y H1 fun z H2 => gName i z σ H2 (us D)) : tSeq (tAug i te (ipI f)) us D σ H := by
  obtain ⟨S, hS⟩ := hA
  obtain ⟨v, e, o, _⟩ := hS.slot hg
  exact ⟨v, e, h v ⟨S, hS.push o⟩⟩
theorem f_ip {f : Int → Int → Int} {a b : Int} (hA : At K g Γ σ ((y, .dat (eI b)) :: (x, .dat (eI a)) :: τ) H) (k : ∀ z H', At K g Γ σ ((z, .dat (eI (f a b))) :: τ) H' → Q z H') : ipI f x y H Q := by
  obtain ⟨S, h⟩ := hA
  exact ⟨a, b, h.pop.top.i, h.top.i, k _ H ⟨S, h.pop.pop.push (.of rfl)⟩⟩
/-! ### o[i] op= e, o an own list -/
theorem gt_list {Xc : Cx} : PGet Xc (rIxL Xc.K) := by
  intro pins s σ H o i ov iv Q I ro ri h
  obtain ⟨p, xs, k, z, rfl, rfl, hq, he, q⟩ := h
  cases ro
  obtain ⟨t, rfl⟩ := ri
  obtain ⟨its, r, pl, hz⟩ := I.list hq
  obtain ⟨j, h1, h2, h3, h4, h5⟩ := atI_get he
  obtain ⟨w, ew, rw'⟩ := r.get h2
  have hl := r.length
  have hn := line63
  have fin : EP Xc pins σ Q w s := ⟨z, H, I, rw', q⟩
  by_cases h0 : 0 ≤ k
  · have hj : k.toNat = j := by
      rw [seqIndex_of h0 h5] at h1
      exact Option.some.inj h1
    exact wpAny_getItem_list pl.isList h0 (by omega) (by rw [hj]; simpa using ew) fin
  · have hj : (k + (its.toArray.size : Int)).toNat = j := by
      rw [seqIndex_neg (by omega) h4] at h1
      rw [List.size_toArray, ← hl]
      exact Option.some.inj h1
    exact wpAny_getItem_list_neg pl.isList (by omega) (by rw [List.size_toArray] <;> omega) (by omega) (by rw [hj]; simpa using ew) fin
theorem x_augS {us : TS} {D : Ends} {f : Int → Int → Int} {rg : V → V → Hp → VK → Prop} {ts : TSet} (h : ta σ H fun o H1 => tb σ H1 fun i H2 => rg o i H2 fun x H3 => te σ H3 fun y H4 => ipI f x y H4 fun z H5 => ts o i z H5 fun H6 => us D σ H6) :
    tSeq (tAugS ta tb te rg (ipI f) ts) us D σ H := h
/-- the item read, alias and place stay -/
theorem f_augGet {e : β → VP} {xs : List β} {k : Int} {oa : Option Addr} {o w : V} {F : β → O ρ lam α} (hg : Γ[i]? = some (some (.own oa (.lst (xs.map e))))) (hA : At K g Γ σ ((w, .dat (eI k)) :: (o, .als i) :: τ) H)
    (hm : Out (bindR (idx xs k) F) N T B C E) (kk : ∀ a v, At K g Γ σ ((v, .dat (e a)) :: (w, .dat (eI k)) :: (o, .als i) :: τ) H → Out (F a) N T B C E → Q v H) : rIxL K o w H Q := by
  have hm2 := hm.bindR
  unfold idx at hm2
  cases e1 : atI xs k with
  | none => rw [e1] at hm2; exact hm2.elim
  | some a =>
    rw [e1] at hm2
    obtain ⟨S, h⟩ := hA
    obtain ⟨b, vs, rfl, h2, h3⟩ := h.isL (List.mem_cons_of_mem _ List.mem_cons_self) (.als hg)
    obtain ⟨v, h4, h5⟩ := atI_hds h3 (atI_map e1)
    exact ⟨b, vs, k, v, rfl, h.top.i, h2, h4, kk a v ⟨S, h.push h5⟩ hm2⟩
/-- the item stored: value on top, place, alias -/
theorem f_augSet {e : β → VP} {xs : List β} {k : Int} {a : β} {oa : Option Addr} {o w z : V} {Q : Hp → Prop} {F : List β → O ρ lam α} (hg : Γ[i]? = some (some (.own oa (.lst (xs.map e))))) (hA : At K g Γ σ ((z, .dat (e a)) :: (w, .dat (eI k)) :: (o, .als i) :: τ) H)
    (hm : Out (bindR (setR xs k a) F) N T B C E) (kk : ∀ ys H', At K g (Γ.set i (some (.own oa (.lst (ys.map e))))) σ τ H' → Out (F ys) N T B C E → Q H') : rSetL o w z H Q := by
  obtain ⟨S, h⟩ := hA
  have p : ((z, Tm.dat (e a)) :: (w, Tm.dat (eI k)) :: (o, Tm.als i) :: τ).Perm ((w, Tm.dat (eI k)) :: (o, Tm.als i) :: (z, Tm.dat (e a)) :: τ) :=
    (List.Perm.swap _ _ _).trans ((List.Perm.swap _ _ _).cons _)
  exact f_setm hg ⟨S, h.perm p⟩ hm kk
/-! ### a datum within a tuple, taken apart -/
theorem eW_set {S : Hp} {p q : VP} {ps : List VP} (j : Nat) (e : ps[j]? = some p) (hb : ∀ w S, Hd K p w S → Hd K q w S) (z : Hd K (eW ps) v S) : Hd K (eW (ps.set j q)) v S := by
  rcases eW_hd z with z | z
  · obtain ⟨a, vs, rfl, h2, h3⟩ := Hd.l z
    exact eW_l (.of ⟨a, vs, rfl, h2, hds_set (ps := ps) j h3 (fun w _ => hb w S) e⟩)
  · obtain ⟨a, vs, rfl, h2, h3⟩ := Hd.t z
    exact eW_t (.of ⟨a, vs, rfl, h2, hds_set (ps := ps) j h3 (fun w _ => hb w S) e⟩)
theorem At.boxI {p q : VP} {ps : List VP} (j : Nat) (e : ps[j]? = some p) (hb : ∀ w S, Hd K p w S → Hd K q w S) (h : At K g Γ σ ((v, .dat (rT ps)) :: τ) H) : At K g Γ σ ((v, .dat (rT (ps.set j q))) :: τ) H := h.box fun v S z => by
  obtain ⟨a, vs, rfl, h2, h3⟩ := Hd.t z
  exact .of ⟨a, vs, rfl, h2, hds_set (ps := ps) j h3 (fun w _ => hb w S) e⟩
theorem f_unp3I (j : Nat) {d : PyData} {ps : List VP} {f : PyData × PyData × PyData → O ρ lam α} {P : Prop} (e : ps[j]? = some (eD d)) (hA : At K g Γ σ ((v, .dat (rT ps)) :: τ) H) (hm : Out (bindR (unp3 d) f) N T B C E)
    (k : ∀ q, At K g Γ σ ((v, .dat (rT (ps.set j (eW [eD q.1, eD q.2.1, eD q.2.2])))) :: τ) H → Out (f q) N T B C E → P) : P := by
  obtain ⟨a, b, c, h | h, q⟩ := unp3_out hm
  · subst h
    exact k (a, b, c) (hA.boxI j e fun w S z => eW_l (eD_list z)) q
  · subst h
    exact k (a, b, c) (hA.boxI j e fun w S z => eW_t (eD_tup z)) q
theorem f_wintI (j m : Nat) {d : PyData} {ps qs : List VP} {f : Int → O ρ lam α} {P : Prop} (e : ps[j]? = some (eW qs)) (e2 : qs[m]? = some (eD d)) (hA : At K g Γ σ ((v, .dat (rT ps)) :: τ) H) (hm : Out (bindR (intD d) f) N T B C E)
    (k : ∀ i, At K g Γ σ ((v, .dat (rT (ps.set j (eW (qs.set m (eI i)))))) :: τ) H → Out (f i) N T B C E → P) : P := by
  cases d with
  | int i => exact k i (hA.boxI j e fun w S z => eW_set m e2 (fun w S z => eD_int z) z) hm
  | _ => exact hm.elim
/-! ### what may be None and is not -/
def getR {α : Type} (o : Option α) : R α := match o with
  | some a => .nx a
  | none => .stuck
theorem f_get {e : β → VP} {o : Option β} {f : β → O ρ lam α} {P : Prop} (hA : At K g Γ σ ((v, .dat (eO e o)) :: τ) H) (hm : Out (bindR (getR o) f) N T B C E) (k : ∀ a, At K g Γ σ ((v, .dat (e a)) :: τ) H → Out (f a) N T B C E → P) : P := by
  cases o with
  | none => exact hm.elim
  | some a => exact k a hA hm
theorem bj_narrow {e : β → VP} {o : Option β} {f : β → O ρ lam α} {ts : TS} {n : α → List (Option Tm)} {b c : lam → List (Option Tm)} (hg : Γ[i]? = some (some (.dat (eO e o)))) (h : ∀ a, BJ K X (Γ.set i (some (.dat (e a)))) ts (f a) n b c) : BJ K X Γ ts (bindR (getR o) f) n b c := fun g σ H D hA hm => by
  cases o with
  | none => exact hm.elim
  | some a =>
    have hs : Γ.set i (some (.dat (e a))) = Γ := by
      apply List.ext_getElem?
      intro j
      by_cases hj : i = j
      · subst hj
        rw [List.getElem?_set_self (List.getElem?_eq_some_iff.mp hg).1, hg]
        rfl
      · rw [List.getElem?_set_ne hj]
    have q := h a
    rw [hs] at q
    exact q g σ H D hA hm
end
theorem At.forget {K : PySem.W.Frag} {g : Gh} {Γ : List (Option Tm)} {σ : St} {τ : List (V × Tm)} {H : Hp} {i : Nat} {p : VP} (e : Γ[i]? = some (some (.dat p))) (h : At K g Γ σ τ H) : At K g (Γ.set i none) σ τ H := by
  obtain ⟨S, h⟩ := h
  exact ⟨S, h.drop1 e⟩
/-- the append of a suite: the frag by its name -/
theorem pe_bmK {X : Cx} {K : PySem.W.Frag} (hK : X.K = K) {o e : Expr} {es : List Expr} {to : TE} {t : TA} {name : Str} {apos cpos : Pos} {T id : String} {r : V → List V → Hp → VK → Prop} (pa : PlainAttrs T) (slot : Slot T name id) (hty : typeOf (.builtin id) = pure (.type "method_descriptor")) (hm : MtR X id r) (ho : PE X o to) (ha : PA X (e :: es) t)
    (hbase : attributeBase o name X.env (eval o X.env) = eval o X.env := by rfl)
    (hfew : ((backTo cpos (starEach (e :: es) X.env)).all (fun x => !x.1) && (backToKw cpos (keywordEach [] X.env)).all (fun x => x.1.isSome)
      && decide ((e :: es).length + ([] : List Keyword).length + (if ([] : List Keyword).isEmpty then 0 else 1) < 30)) = true := by rfl)
    (hline : (apos.endLine == cpos.line) = true := by rfl) (hs : starEach (e :: es) X.env = (false, eval e X.env) :: starEach es X.env := by rfl) (hplain : (backTo cpos (starEach es X.env)).any (·.1) = false := by rfl) :
    PE X (.Call (.Attribute o name apos) (e :: es) [] cpos) (tBM K T r to t) := by
  subst hK
  exact pe_bm pa slot hty hm ho ha hbase hfew hline hs hplain
end Gv

set_option Elab.async false
set_option linter.all false
set_option maxRecDepth 100000
set_option maxHeartbeats 2000000
/-! Gv: is None of a datum, max -/
namespace Gv
open PySem L2
def isNo : PyData → Bool
  | .none => true
  | _ => false
section
variable {prog : Program} {w : World} {A : Around} {E : Value → Shared → Prop} {s : Shared} {l : Addr} {xs : Array (Int × Tok)}
theorem max_intTup {Q : Value → Shared → Prop} (hh : A.handled = none) (hl : s.heap.IsTuple l (intItems xs)) (hne : 0 < xs.size)
    (h : ∀ v h' tk, (intItems xs)[argBest (fun i j => decide (numAt xs i > numAt xs j)) (xs.size - 1)]? = some v → (∀ b o, s.heap.get? b = some o → h'.get? b = some o) → Q v { s with heap := h', toks := tk }) :
    wpAny (model prog w) A (call (.builtin "max") [.ref l]) Q E s := by
  have hlt : l < s.heap.objs.size := by obtain ⟨_, e, _⟩ := hl; exact Heap.lt_size e
  have hfp : ∀ b ∈ [s.heap.objs.size, l], b < (s.heap.push { cls := .type "tuple_iterator", data := .fields #[.ref l, .int 0 0] }).objs.size := fun b hb => by
    rw [Heap.size_push]
    rcases List.mem_cons.mp hb with rfl | hb
    · exact Nat.lt_succ_self _
    · rcases List.mem_cons.mp hb with rfl | hb
      · exact Nat.lt_succ_of_lt hlt
      · cases hb
  refine call_max_walk (wpAny_pyIter_tuple hl ?_)
  refine ⟨_, _, _, _, _, _, _, rfl, Walks.tuple (A := A.in1) hh _ l (Nat.ne_of_lt hlt) (intItems xs), ⟨⟨_, Heap.get?_push_size _ rfl, rfl, rfl⟩, hl.push _⟩, hfp, by simpa [intItems] using hne, CmpOf.ints_gt (numAt xs) (fun _ _ => intItems_at), fun v h' tk hP hk => ?_⟩
  refine h v h' tk (by simpa [intItems] using hP) fun b o e => hk b o (fun hm => ?_) (Heap.get?_push_of_some _ e)
  rcases List.mem_cons.mp hm with e1 | hm
  · exact absurd (e1 ▸ Heap.lt_size e) (Nat.lt_irrefl _)
  · cases hm
open PyProof.Rows in
theorem max_rawT {its : List Value} {ns : List Int} {Q : Value → Shared → Prop} (hh : A.handled = none) (hl : s.heap.IsTuple l its.toArray) (hi : IntsAre its ns) (hne : 0 < ns.length)
    (h : ∀ h' tk M t', (∀ b o, s.heap.get? b = some o → h'.get? b = some o) → M ∈ ns → (∀ a, a ∈ ns → a ≤ M) → Q (.int M t') { s with heap := h', toks := tk }) : wpAny (model prog w) A (call (.builtin "max") [.ref l]) Q E s := by
  obtain ⟨xs, e⟩ := hi.allInts.items
  have hn : numsOf (intItems xs).toList = ns := by rw [← e]; exact hi.numsOf
  rw [nums_intItems] at hn
  subst hn
  rw [e] at hl
  have hsz : 0 < xs.size := by simpa using hne
  refine max_intTup hh hl hsz fun v h' tk hv hk => ?_
  obtain ⟨t, rfl⟩ := intItems_at hv
  obtain ⟨h1, h2⟩ := argBest_gt (numAt xs) (xs.size - 1)
  refine h h' tk _ t hk ?_ fun a ha => ?_
  · rw [numAt_eq]; exact PySem.getD_mem (by rw [List.length_map, Array.length_toList]; omega)
  · obtain ⟨j, hj, rfl⟩ := mem_getD ha
    rw [List.length_map, Array.length_toList] at hj
    rw [← numAt_eq]; exact h2 j (by omega)
end
def rMaxT (K : PySem.W.Frag) : List V → Hp → VK → Prop := fun vs H Q => ∃ (a : Addr) (ns : List Int), vs = [V.ref a] ∧ SqT K H a (ns.map V.int) ∧ 0 < ns.length ∧ ∀ m, m ∈ ns → (∀ y, y ∈ ns → y ≤ m) → Q (.int m) H
theorem cr_maxT {X : Cx} (hc : X.calm = true) : CallR X (.builtin "max") (rMaxT X.K) := by
  intro pins s σ H vs us Q I r h
  obtain ⟨a, ns, rfl, hs, hne, q⟩ := h
  obtain ⟨its, rv, hl, _⟩ := I.tuple hs
  rw [Vals.ref1 r]
  exact max_rawT (I.ok.hd hc) hl rv.ints hne fun h' tk m t' hk h1 h2 => ⟨.int _, H, I.kept hk, ⟨_, rfl⟩, q m h1 h2⟩
def maxL : List Int → Int
  | [] => 0
  | x :: xs => if maxL xs < x ∨ xs = [] then x else maxL xs
theorem maxL_ok : ∀ {xs : List Int}, xs ≠ [] → maxL xs ∈ xs ∧ ∀ y, y ∈ xs → y ≤ maxL xs
  | [], h => absurd rfl h
  | x :: xs, _ => by
    unfold maxL
    by_cases e : xs = []
    · subst e
      rw [if_pos (.inr rfl)]
      exact ⟨List.mem_cons_self, fun y hy => by have : y = x := by simpa using hy
                                                omega⟩
    · obtain ⟨a, b⟩ := maxL_ok e
      by_cases c : maxL xs < x
      · rw [if_pos (.inl c)]
        refine ⟨List.mem_cons_self, fun y hy => ?_⟩
        rcases List.mem_cons.mp hy with rfl | hy
        · omega
        · have := b y hy; omega
      · rw [if_neg (fun z => z.elim c e)]
        refine ⟨List.mem_cons_of_mem _ a, fun y hy => ?_⟩
        rcases List.mem_cons.mp hy with rfl | hy
        · omega
        · exact b y hy
def maxR (xs : List Int) : R Int := gd (!xs.isEmpty) (maxL xs)
section
variable {K : PySem.W.Frag} {Γ : List (Option Tm)}
theorem eD_dec {d : PyData} {v : V} {S : Hp} (h : Hd K (eD d) v S) : decide (v = .non) = isNo d := by
  obtain ⟨_, _, h⟩ := h
  cases h <;> first | rfl | exact decide_eq_false (fun z => nomatch z)
theorem o2_isND {d : PyData} : O2 K Γ rIsN (.dat (eD d)) (.dat eN) (.dat (eB (isNo d))) :=
  At.scal2 (fun S v w h1 h2 H Q k => ⟨h2.n, by rw [eD_dec h1]; exact k⟩) fun _ => rfl
theorem o2_notND {d : PyData} : O2 K Γ rNotN (.dat (eD d)) (.dat eN) (.dat (eB (!(isNo d)))) :=
  At.scal2 (fun S v w h1 h2 H Q k => ⟨h2.n, by rw [eD_dec h1]; exact k⟩) fun _ => rfl
theorem o1_maxT {xs : List Int} : O1M K Γ (fun x => rMaxT K [x]) (.dat (eT eI xs)) (maxR xs) (fun c => .dat (eI c)) := At.part1 fun hc g σ τ H x Q ⟨S, h⟩ k => by
  obtain ⟨a, vs, rfl, h2, h3⟩ := Hd.t h.top
  rw [hds_ints h3] at h2
  have hne : xs ≠ [] := fun z => by subst z; cases hc
  obtain ⟨m1, m2⟩ := maxL_ok hne
  refine ⟨a, xs, rfl, same_t h.base.sh h2, List.length_pos_iff.mpr hne, fun m h1 h2 => ?_⟩
  have : m = maxL xs := by have a := m2 m h1; have b := h2 _ m1; omega
  subst this
  exact k _ H ⟨S, h.pop.push (.of rfl)⟩
end
end Gv

set_option Elab.async false
set_option linter.all false
set_option maxRecDepth 100000
set_option maxHeartbeats 1000000
/-! Gm: how mirrors are read -/
namespace Gv
open PySem L2
section
variable {ρ lam α β γ σ : Type}
@[simp] theorem bindR_nx (a : α) (f : α → O ρ lam β) : bindR (.nx a) f = f a := rfl
@[simp] theorem bindR_er (x : Er) (f : α → O ρ lam β) : bindR (.er x) f = .er x := rfl
@[simp] theorem bind_nx (a : α) (f : α → O ρ lam β) : O.bind (.nx a) f = f a := rfl
@[simp] theorem bind_rt (a : ρ) (f : α → O ρ lam β) : O.bind (.rt a) f = .rt a := rfl
@[simp] theorem bind_er (a : Er) (f : α → O ρ lam β) : O.bind (.er a : O ρ lam α) f = .er a := rfl
@[simp] theorem lt_eq (e : β) (f : β → γ) : lt e f = f e := rfl
@[simp] theorem fin_rt (r : ρ) (d : α → R ρ) : fin (.rt r) d = .nx r := rfl
@[simp] theorem fin_nx (r : α) (d : α → R ρ) : fin (.nx r) d = d r := rfl
@[simp] theorem fin_er (x : Er) (d : α → R ρ) : fin (.er x) d = .er x := rfl
@[simp] theorem forO_nil (f : σ → β → O ρ σ σ) (s : σ) : (forO f [] s : O ρ lam σ) = .nx s := rfl
theorem forO_cons {f : σ → β → O ρ σ σ} {x : β} {xs : List β} {s s' : σ} (h : f s x = .nx s') : (forO f (x :: xs) s : O ρ lam σ) = forO f xs s' := by
  show (match f s x with
    | .nx s' => forO f xs s' | .ct s' => forO f xs s' | .bk s' => .nx s' | .rt r => .rt r | .er x => .er x | .stuck => .stuck) = _
  rw [h]
theorem forO_er {f : σ → β → O ρ σ σ} {x : β} {xs : List β} {s : σ} {e : Er} (h : f s x = .er e) : (forO f (x :: xs) s : O ρ lam σ) = .er e := by
  show (match f s x with
    | .nx s' => forO f xs s' | .ct s' => forO f xs s' | .bk s' => .nx s' | .rt r => .rt r | .er x => .er x | .stuck => .stuck) = _
  rw [h]
theorem forO_rt {f : σ → β → O ρ σ σ} {x : β} {xs : List β} {s : σ} {e : ρ} (h : f s x = .rt e) : (forO f (x :: xs) s : O ρ lam σ) = .rt e := by
  show (match f s x with
    | .nx s' => forO f xs s' | .ct s' => forO f xs s' | .bk s' => .nx s' | .rt r => .rt r | .er x => .er x | .stuck => .stuck) = _
  rw [h]
/-- each turn goes on; I by the turn -/
theorem forO_ind {f : σ → β → O ρ σ σ} (I : Nat → σ → Prop) : ∀ (xs : List β) (k : Nat) (s : σ), I k s → (∀ i s x, xs[i]? = some x → I (k + i) s → ∃ s', f s x = .nx s' ∧ I (k + i + 1) s') → ∃ s', (forO f xs s : O ρ lam σ) = .nx s' ∧ I (k + xs.length) s'
  | [], k, s, h0, _ => ⟨s, rfl, h0⟩
  | x :: xs, k, s, h0, h => by
    obtain ⟨s1, e, h1⟩ := h 0 s x rfl h0
    obtain ⟨s2, e2, h2⟩ := forO_ind I xs (k + 1) s1 h1 fun i s y hy hi => by
      have q := h (i + 1) s y (by simpa using hy) (by rw [show k + (i + 1) = k + 1 + i by omega]; exact hi)
      rw [show k + (i + 1) + 1 = k + 1 + i + 1 by omega] at q
      exact q
    refine ⟨s2, by rw [forO_cons e]; exact e2, ?_⟩
    rw [List.length_cons, show k + (xs.length + 1) = k + 1 + xs.length by omega]
    exact h2
theorem forO_inv {f : σ → β → O ρ σ σ} (I : σ → Prop) (xs : List β) (s : σ) (h0 : I s) (h : ∀ s x, x ∈ xs → I s → ∃ s', f s x = .nx s' ∧ I s') : ∃ s', (forO f xs s : O ρ lam σ) = .nx s' ∧ I s' := by
  obtain ⟨s', e, q⟩ := forO_ind (lam := lam) (f := f) (fun _ => I) xs 0 s h0 fun i s x hx hi => h s x (List.mem_of_getElem? hx) hi
  exact ⟨s', e, q⟩
/-- each turn is a step of a fold -/
theorem forO_fold {f : σ → β → O ρ σ σ} (g : σ → β → σ) : ∀ (xs : List β) (s : σ) (I : σ → Prop), I s → (∀ s x, x ∈ xs → I s → f s x = .nx (g s x) ∧ I (g s x)) → (forO f xs s : O ρ lam σ) = .nx (xs.foldl g s) ∧ I (xs.foldl g s)
  | [], s, I, h0, _ => ⟨rfl, h0⟩
  | x :: xs, s, I, h0, h => by
    obtain ⟨e, h1⟩ := h s x List.mem_cons_self h0
    rw [forO_cons e]
    exact forO_fold g xs (g s x) I h1 fun s y hy hi => h s y (List.mem_cons_of_mem _ hy) hi
theorem lcR_map {s : σ} {f : σ → β → R (σ × Option γ)} (g : β → γ) : ∀ (xs : List β) (acc : List γ), (∀ b, b ∈ xs → f s b = .nx (s, some (g b))) → acc.length + xs.length ≤ 1000000 → lcR f xs s acc = .nx (s, acc ++ xs.map g)
  | [], acc, _, _ => by rw [List.map_nil, List.append_nil]; rfl
  | x :: xs, acc, h, hl => by
    have e := h x List.mem_cons_self
    have hl' : acc.length < 1000000 := by simp at hl; omega
    unfold lcR
    rw [e]
    show (if acc.length < 1000000 then lcR f xs s (acc ++ [g x]) else .stuck) = _
    rw [if_pos hl', lcR_map g xs (acc ++ [g x]) (fun b hb => h b (List.mem_cons_of_mem _ hb)) (by simp at hl ⊢; omega), List.append_assoc]
    rfl
theorem gd_true {c : Bool} {a : α} (h : c = true) : gd c a = .nx a := by
  subst h
  rfl
theorem modR_nx {a b : Int} (h : 0 < b) : modR a b = .nx (a % b) := gd_true (decide_eq_true h)
theorem divR_nx {a b : Int} (h : 0 < b) (h2 : b < 1073741824) : divR a b = .nx (a / b) := gd_true (by simp [h, h2])
theorem mulR_nx {a b : Int} (h : 0 ≤ a ∧ a < 1000000000000000000 ∨ 0 ≤ b ∧ b < 1000000000000000000) : mulR a b = .nx (a * b) := by
  unfold mulR
  exact gd_true (by
    simp only [Bool.or_eq_true, Bool.and_eq_true, decide_eq_true_eq]
    omega)
theorem rngR_nx {a b : Int} (h : -1000000000 ≤ a ∧ a ≤ 1000000000 ∧ -1000000000 ≤ b ∧ b ≤ 1000000000) : rngR a b = .nx (rangeL a b) := by
  rw [rngR_eq]
  exact gd_true (by simp only [Bool.and_eq_true, decide_eq_true_eq]; omega)
theorem appR_nx {xs : List α} {x : α} (h : xs.length < 1000000) : appR xs x = .nx (xs ++ [x]) := gd_true (decide_eq_true h)
theorem catR_nx {xs ys : List α} (h : xs.length + ys.length ≤ 1000000) : catR xs ys = .nx (xs ++ ys) := gd_true (decide_eq_true h)
theorem ixN_nat {n k : Nat} (h : k < n) : ixN n (k : Int) = some k := by
  unfold ixN
  rw [if_pos (by omega), if_pos (by omega)]
  rfl
theorem idx_nat {xs : List α} {k : Nat} {a : α} (h : xs[k]? = some a) : idx xs (k : Int) = .nx a := by
  have hk : k < xs.length := (List.getElem?_eq_some_iff.mp h).1
  unfold idx atI
  rw [ixN_nat hk]
  show (match xs[k]? with
    | some a => O.nx a
    | none => .stuck) = _
  rw [h]
theorem mem_rangeL {a b x : Int} : x ∈ rangeL a b ↔ a ≤ x ∧ x < b := by
  unfold rangeL
  simp only [List.mem_map, List.mem_range]
  constructor
  · rintro ⟨i, h1, rfl⟩
    omega
  · rintro ⟨h1, h2⟩
    exact ⟨(x - a).toNat, by omega, by omega⟩
theorem rangeL_get0 {n i : Nat} {x : Int} (h : (rangeL 0 (n : Int))[i]? = some x) : x = (i : Int) ∧ i < n := by
  have e := rangeL_get h
  have l := (List.getElem?_eq_some_iff.mp h).1
  rw [rangeL_len] at l
  omega
/-! ### what a mirror ends with -/
variable {N : α → Prop} {N' : β → Prop} {T : ρ → Prop} {B C : lam → Prop} {E : Er → Prop}
theorem o_bindR {m : R α} {f : α → O ρ lam β} (h : OutR m (fun a => Out (f a) N' T B C E) E) : Out (bindR m f) N' T B C E := by
  cases m <;> first | exact h | (rename_i z; exact z.elim)
theorem o_bind {m : O ρ lam α} {f : α → O ρ lam β} (h : Out m (fun a => Out (f a) N' T B C E) T B C E) : Out (m.bind f) N' T B C E := by
  cases m <;> exact h
theorem o_lt {e : γ} {f : γ → O ρ lam α} (h : Out (f e) N T B C E) : Out (lt e f) N T B C E := h
theorem o_ite {b : Bool} {m1 m2 : O ρ lam α} (h1 : b = true → Out m1 N T B C E) (h2 : b = false → Out m2 N T B C E) : Out (if b then m1 else m2) N T B C E := by
  cases b with
  | true => exact h1 rfl
  | false => exact h2 rfl
theorem o_nx {a : α} (h : N a) : Out (.nx a : O ρ lam α) N T B C E := h
theorem o_rt {a : ρ} (h : T a) : Out (.rt a : O ρ lam α) N T B C E := h
theorem o_er {a : Er} (h : E a) : Out (.er a : O ρ lam α) N T B C E := h
theorem o_fin {m : O ρ Empty α} {d : α → R ρ} {N : ρ → Prop} (h : Out m (fun a => OutR (d a) N E) N (fun _ => True) (fun _ => True) E) : OutR (fin m d) N E := by
  cases m <;> first | exact h | (rename_i z; exact z.elim)
theorem o_gd {c : Bool} {a : α} (h : c = true) (k : N a) : OutR (gd c a) N E := by
  rw [gd_true h]
  exact k
theorem o_eq {m : R α} {a : α} (h : m = .nx a) (k : N a) : OutR m N E := by
  rw [h]
  exact k
theorem o_val {m : R α} (h : OutR m N (fun _ => False)) : ∃ a, m = .nx a ∧ N a := by
  cases m with
  | nx a => exact ⟨a, rfl, h⟩
  | rt r => exact r.elim
  | bk r => exact r.elim
  | ct r => exact r.elim
  | er x => exact h.elim
  | stuck => exact h.elim
theorem o_forO {f : σ → β → O ρ σ σ} {N : σ → Prop} (I : Nat → σ → Prop) : ∀ {xs : List β} {k : Nat} {s : σ}, I k s → (∀ i s x, xs[i]? = some x → I (k + i) s → Out (f s x) (I (k + i + 1)) T N (I (k + i + 1)) E) → (∀ s, I (k + xs.length) s → N s) → Out (forO f xs s : O ρ lam σ) N T B C E
  | [], k, s, h0, _, hk => hk s h0
  | x :: xs, k, s, h0, h, hk => by
    have q := h 0 s x rfl h0
    have go : ∀ s', I (k + 1) s' → Out (forO f xs s' : O ρ lam σ) N T B C E := fun s' h1 => o_forO I (k := k + 1) h1 (fun i s y hy hi => by
      have q := h (i + 1) s y (by simpa using hy) (by rw [show k + (i + 1) = k + 1 + i by omega]; exact hi)
      rw [show k + (i + 1) + 1 = k + 1 + i + 1 by omega] at q
      exact q) fun s hs => hk s (by rw [List.length_cons, show k + (xs.length + 1) = k + 1 + xs.length by omega]; exact hs)
    show Out (match f s x with
      | .nx s' => forO f xs s' | .ct s' => forO f xs s' | .bk s' => .nx s' | .rt r => .rt r | .er x => .er x | .stuck => .stuck) N T B C E
    cases e : f s x <;> rw [e] at q
    · exact go _ q
    · exact q
    · exact q
    · exact go _ q
    · exact q
    · exact q
theorem o_for {f : σ → β → O ρ σ σ} {N : σ → Prop} (I : Nat → σ → Prop) {xs : List β} {s : σ} (h0 : I 0 s) (h : ∀ i s x, xs[i]? = some x → I i s → Out (f s x) (I (i + 1)) T N (I (i + 1)) E) (hk : ∀ s, I xs.length s → N s) : Out (forO f xs s : O ρ lam σ) N T B C E :=
  o_forO I (k := 0) h0 (fun i s x hx hi => by rw [Nat.zero_add] at hi ⊢; exact h i s x hx hi) fun s hs => by rw [Nat.zero_add] at hs; exact hk s hs
theorem o_while {c : σ → R (σ × Bool)} {f : σ → O ρ σ σ} {N : σ → Prop} (I : σ → Prop) (m : σ → Nat) (h : ∀ s, I s → OutR (c s) (fun sb => (sb.2 = false → N sb.1) ∧ (sb.2 = true → Out (f sb.1) (fun s' => I s' ∧ m s' < m s) T N (fun s' => I s' ∧ m s' < m s) E)) E) :
    ∀ (n : Nat) (s : σ), I s → m s < n → Out (whileO c f n s : O ρ lam σ) N T B C E
  | 0, s, _, hm => absurd hm (by omega)
  | n + 1, s, hI, hm => by
    unfold whileO
    refine o_bindR ((h s hI).imp (fun sb q => ?_) fun _ q => q)
    cases e : sb.2 with
    | false => exact q.1 e
    | true =>
      have q2 := q.2 e
      rw [if_pos rfl]
      have go : ∀ s', (I s' ∧ m s' < m s) → Out (whileO c f n s' : O ρ lam σ) N T B C E := fun s' z => o_while I m h n s' z.1 (by omega)
      cases e3 : f sb.1 <;> rw [e3] at q2
      · exact go _ q2
      · exact q2
      · exact q2
      · exact go _ q2
      · exact q2
      · exact q2
theorem o_lcR {s : σ} {f : σ → β → R (σ × Option γ)} {xs : List β} {N : σ × List γ → Prop} (g : β → γ) (h : ∀ b, b ∈ xs → OutR (f s b) (fun r => r = (s, some (g b))) (fun _ => False)) (hl : xs.length ≤ 1000000) (hk : N (s, xs.map g)) : OutR (lcR f xs s []) N E := by
  refine o_eq (lcR_map g xs [] (fun b hb => ?_) (by simpa using hl)) (by simpa using hk)
  obtain ⟨r, e, q⟩ := o_val (h b hb)
  rw [e, q]
theorem o_r {m : R α} (h : Out m N (fun _ => True) (fun _ => True) (fun _ => True) E) : OutR m N E := h.outR
end
end Gv

set_option Elab.async false
set_option linter.all false
set_option maxRecDepth 100000
set_option maxHeartbeats 1000000
/-! cut tasks by ticks: plain -/
namespace Tk
abbrev Job := Int × Int × Int
def comeL : List Job → List Int → Nat → List Int
  | j :: js, x :: xs, t => (if (t : Int) % j.2.1 = j.2.2 then x + j.1 else x) :: comeL js xs t
  | _, xs, _ => xs
def missL : List Job → List Int → Nat → Option Nat
  | j :: js, x :: xs, t => if (t : Int) % j.2.1 = j.2.2 ∧ 0 < x then some 0 else (missL js xs t).map (· + 1)
  | _, _, _ => none
def whoL : List Int → Option Nat
  | [] => none
  | x :: xs => if 0 < x then some 0 else (whoL xs).map (· + 1)
def runL : List Int → List Int
  | [] => []
  | x :: xs => if 0 < x then (x - 1) :: xs else x :: runL xs
def mi : Option Nat → Int
  | none => -1
  | some k => (k : Int)
def mo (o : Option Nat) : Option Int := o.map fun k => (k : Int)
theorem mi_inj {a b : Option Nat} (h : mi a = mi b) : a = b := by
  cases a <;> cases b <;> simp only [mi] at h <;> first | rfl | omega | (congr 1; omega)
theorem mi_neg {a : Option Nat} : mi a < 0 ↔ a = none := by
  cases a <;> simp [mi] <;> omega
theorem mi_nn {a : Option Nat} : 0 ≤ mi a ↔ a ≠ none := by
  cases a <;> simp [mi] <;> omega
theorem comeL_len : ∀ (js : List Job) (xs : List Int) (t : Nat), (comeL js xs t).length = xs.length
  | [], _, _ => by unfold comeL; rfl
  | _ :: _, [], _ => by unfold comeL; rfl
  | j :: js, x :: xs, t => by unfold comeL; rw [List.length_cons, comeL_len js xs t, List.length_cons]
theorem comeL_nil (xs : List Int) (t : Nat) : comeL [] xs t = xs := by unfold comeL; rfl
theorem missL_nil (xs : List Int) (t : Nat) : missL [] xs t = none := by unfold missL; rfl
theorem comeL_get : ∀ (js : List Job) (xs : List Int) (t k : Nat), js.length ≤ k → (comeL js xs t)[k]? = xs[k]?
  | [], xs, t, k, _ => by rw [comeL_nil]
  | _ :: _, [], _, _, _ => by unfold comeL; rfl
  | j :: js, x :: xs, t, 0, h => by simp at h
  | j :: js, x :: xs, t, k + 1, h => by
    unfold comeL
    rw [List.getElem?_cons_succ, List.getElem?_cons_succ]
    exact comeL_get js xs t k (by simpa using h)
theorem comeL_at : ∀ {js : List Job} {xs : List Int} {t k : Nat} {j : Job} {x : Int}, js[k]? = some j → xs[k]? = some x → (comeL js xs t)[k]? = some (if (t : Int) % j.2.1 = j.2.2 then x + j.1 else x)
  | [], _, _, _, _, _, h, _ => by simp at h
  | _ :: _, [], _, _, _, _, _, h => by simp at h
  | j0 :: js, x0 :: xs, t, 0, j, x, h1, h2 => by
    simp at h1 h2
    subst h1 h2
    unfold comeL
    rfl
  | j0 :: js, x0 :: xs, t, k + 1, j, x, h1, h2 => by
    unfold comeL
    rw [List.getElem?_cons_succ] at h1 h2 ⊢
    exact comeL_at h1 h2
theorem come_succ : ∀ {js : List Job} {xs : List Int} {t k : Nat} {j : Job} {x : Int}, js[k]? = some j → xs[k]? = some x → comeL (js.take (k + 1)) xs t = if (t : Int) % j.2.1 = j.2.2 then (comeL (js.take k) xs t).set k (x + j.1) else comeL (js.take k) xs t
  | [], _, _, _, _, _, h, _ => by simp at h
  | _ :: _, [], _, _, _, _, _, h => by simp at h
  | j0 :: js, x0 :: xs, t, 0, j, x, h1, h2 => by
    simp at h1 h2
    subst h1 h2
    simp only [List.take_succ_cons, List.take_zero, comeL, comeL_nil]
    split <;> rfl
  | j0 :: js, x0 :: xs, t, k + 1, j, x, h1, h2 => by
    rw [List.getElem?_cons_succ] at h1 h2
    have e := come_succ (t := t) h1 h2
    rw [List.take_succ_cons, List.take_succ_cons]
    simp only [comeL]
    rw [e]
    split <;> split <;> rfl
theorem miss_succ : ∀ {js : List Job} {xs : List Int} {t k : Nat} {j : Job} {x : Int}, js[k]? = some j → xs[k]? = some x → missL (js.take (k + 1)) xs t = match missL (js.take k) xs t with
    | some m => some m
    | none => if (t : Int) % j.2.1 = j.2.2 ∧ 0 < x then some k else none
  | [], _, _, _, _, _, h, _ => by simp at h
  | _ :: _, [], _, _, _, _, _, h => by simp at h
  | j0 :: js, x0 :: xs, t, 0, j, x, h1, h2 => by
    simp at h1 h2
    subst h1 h2
    simp only [List.take_succ_cons, List.take_zero, missL, missL_nil]
    split <;> rfl
  | j0 :: js, x0 :: xs, t, k + 1, j, x, h1, h2 => by
    rw [List.getElem?_cons_succ] at h1 h2
    have e := miss_succ (t := t) h1 h2
    rw [List.take_succ_cons, List.take_succ_cons]
    simp only [missL]
    rw [e]
    by_cases c : (t : Int) % j0.2.1 = j0.2.2 ∧ 0 < x0
    · simp only [if_pos c]
    · simp only [if_neg c]
      cases missL (js.take k) xs t with
      | some m => rfl
      | none =>
        by_cases c2 : (t : Int) % j.2.1 = j.2.2 ∧ 0 < x
        · simp only [if_pos c2, Option.map_none, Option.map_some]
        · simp only [if_neg c2, Option.map_none]
theorem missL_some : ∀ {js : List Job} {xs : List Int} {t k : Nat} {j : Job} {x : Int}, js[k]? = some j → xs[k]? = some x → (t : Int) % j.2.1 = j.2.2 → 0 < x → missL js xs t ≠ none
  | [], _, _, _, _, _, h, _, _, _ => by simp at h
  | _ :: _, [], _, _, _, _, _, h, _, _ => by simp at h
  | j0 :: js, x0 :: xs, t, 0, j, x, h1, h2, h3, h4 => by
    simp at h1 h2
    subst h1 h2
    unfold missL
    rw [if_pos ⟨h3, h4⟩]
    simp
  | j0 :: js, x0 :: xs, t, k + 1, j, x, h1, h2, h3, h4 => by
    rw [List.getElem?_cons_succ] at h1 h2
    have e := missL_some (t := t) h1 h2 h3 h4
    unfold missL
    split
    · simp
    · cases q : missL js xs t with
      | none => exact absurd q e
      | some m => simp
theorem who_at : ∀ {xs : List Int} {k : Nat} {x : Int}, xs[k]? = some x → 0 < x → (∀ (i : Nat) (y : Int), i < k → xs[i]? = some y → y ≤ 0) → whoL xs = some k ∧ runL xs = xs.set k (x - 1)
  | [], _, _, h, _, _ => by simp at h
  | x0 :: xs, 0, x, h, hx, _ => by
    simp at h
    subst h
    unfold whoL runL
    rw [if_pos hx, if_pos hx]
    exact ⟨rfl, rfl⟩
  | x0 :: xs, k + 1, x, h, hx, hi => by
    rw [List.getElem?_cons_succ] at h
    have z : ¬ 0 < x0 := by have := hi 0 x0 (by omega) rfl; omega
    obtain ⟨e1, e2⟩ := who_at h hx fun i y h1 h2 => hi (i + 1) y (by omega) (by rw [List.getElem?_cons_succ]; exact h2)
    unfold whoL runL
    rw [if_neg z, if_neg z, e1, e2]
    exact ⟨rfl, rfl⟩
theorem who_none : ∀ {xs : List Int}, (∀ (i : Nat) (y : Int), xs[i]? = some y → y ≤ 0) → whoL xs = none ∧ runL xs = xs
  | [], _ => ⟨rfl, rfl⟩
  | x0 :: xs, hi => by
    have z : ¬ 0 < x0 := by have := hi 0 x0 rfl; omega
    obtain ⟨e1, e2⟩ := who_none (xs := xs) fun i y h2 => hi (i + 1) y (by rw [List.getElem?_cons_succ]; exact h2)
    unfold whoL runL
    rw [if_neg z, if_neg z, e1, e2]
    exact ⟨rfl, rfl⟩
theorem runL_len : ∀ (xs : List Int), (runL xs).length = xs.length
  | [] => rfl
  | x :: xs => by
    unfold runL
    split
    · simp
    · rw [List.length_cons, runL_len xs, List.length_cons]
theorem runL_at : ∀ {xs : List Int} {k : Nat} {x : Int}, xs[k]? = some x → (runL xs)[k]? = some (if whoL xs = some k then x - 1 else x)
  | [], _, _, h => by simp at h
  | x0 :: xs, 0, x, h => by
    simp at h
    subst h
    unfold runL whoL
    by_cases c : 0 < x0
    · rw [if_pos c, if_pos c]; simp
    · rw [if_neg c, if_neg c]
      cases q : whoL xs <;> simp
  | x0 :: xs, k + 1, x, h => by
    rw [List.getElem?_cons_succ] at h
    unfold runL whoL
    by_cases c : 0 < x0
    · rw [if_pos c, if_pos c]; simp [h]
    · rw [if_neg c, if_neg c, List.getElem?_cons_succ, runL_at h]
      cases q : whoL xs <;> simp
theorem who_pos : ∀ {xs : List Int} {k : Nat}, whoL xs = some k → ∃ x, xs[k]? = some x ∧ 0 < x
  | [], _, h => by simp [whoL] at h
  | x0 :: xs, k, h => by
    unfold whoL at h
    by_cases c : 0 < x0
    · rw [if_pos c] at h
      cases h
      exact ⟨x0, rfl, c⟩
    · rw [if_neg c] at h
      cases q : whoL xs with
      | none => rw [q] at h; simp at h
      | some m =>
        rw [q] at h
        simp at h
        subst h
        obtain ⟨x, h1, h2⟩ := who_pos q
        exact ⟨x, by rw [List.getElem?_cons_succ]; exact h1, h2⟩
/-! ### the row of standings -/
def stp (js : List Job) (s : List Int) (t : Nat) : List Int := runL (comeL js s t)
def zs (js : List Job) : List Int := js.map fun _ => 0
def st (js : List Job) : Nat → List Int
  | 0 => zs js
  | t + 1 => stp js (st js t) t
def ms (js : List Job) (t : Nat) : Option Nat := missL js (st js t) t
theorem stp_len (js : List Job) (s : List Int) (t : Nat) : (stp js s t).length = s.length := by
  unfold stp
  rw [runL_len, comeL_len]
theorem st_len (js : List Job) : ∀ t, (st js t).length = js.length
  | 0 => by unfold st zs; simp
  | t + 1 => by unfold st; rw [stp_len, st_len js t]
/-! ### monotone -/
def Le : List Int → List Int → Prop
  | [], [] => True
  | x :: xs, y :: ys => x ≤ y ∧ Le xs ys
  | _, _ => False
theorem Le.refl : ∀ xs, Le xs xs
  | [] => trivial
  | x :: xs => ⟨Int.le_refl x, Le.refl xs⟩
theorem Le.trans : ∀ {xs ys zs}, Le xs ys → Le ys zs → Le xs zs
  | [], [], [], _, _ => trivial
  | x :: xs, y :: ys, z :: zs, h1, h2 => ⟨Int.le_trans h1.1 h2.1, Le.trans h1.2 h2.2⟩
  | [], _ :: _, _, h, _ => h.elim
  | _ :: _, [], _, h, _ => h.elim
  | [], [], _ :: _, _, h => h.elim
  | _ :: _, _ :: _, [], _, h => h.elim
theorem come_mono {t : Nat} : ∀ {js : List Job} {xs ys : List Int}, Le xs ys → Le (comeL js xs t) (comeL js ys t)
  | [], _, _, h => by rw [comeL_nil, comeL_nil]; exact h
  | _ :: _, [], [], _ => by unfold comeL; trivial
  | j :: js, x :: xs, y :: ys, h => by
    unfold comeL
    refine ⟨?_, come_mono h.2⟩
    have := h.1
    split <;> omega
  | _ :: _, [], _ :: _, h => h.elim
  | _ :: _, _ :: _, [], h => h.elim
theorem run_mono : ∀ {xs ys : List Int}, Le xs ys → Le (runL xs) (runL ys)
  | [], [], _ => trivial
  | x :: xs, y :: ys, h => by
    have h1 := h.1
    unfold runL
    by_cases cx : 0 < x
    · rw [if_pos cx, if_pos (by omega)]
      exact ⟨by omega, h.2⟩
    · rw [if_neg cx]
      by_cases cy : 0 < y
      · rw [if_pos cy]
        refine ⟨by omega, Le.trans ?_ h.2⟩
        exact run_le xs
      · rw [if_neg cy]
        exact ⟨h1, run_mono h.2⟩
  | [], _ :: _, h => h.elim
  | _ :: _, [], h => h.elim
where
  run_le : ∀ xs, Le (runL xs) xs
    | [] => trivial
    | x :: xs => by
      unfold runL
      split
      · exact ⟨by omega, Le.refl xs⟩
      · exact ⟨Int.le_refl x, run_le xs⟩
theorem stp_mono {js : List Job} {t : Nat} {xs ys : List Int} (h : Le xs ys) : Le (stp js xs t) (stp js ys t) := run_mono (come_mono h)
def Nl (xs : List Int) : Prop := ∀ x, x ∈ xs → 0 ≤ x
theorem zs_le : ∀ {js : List Job} {xs : List Int}, xs.length = js.length → Nl xs → Le (zs js) xs
  | [], [], _, _ => trivial
  | _ :: js, x :: xs, hl, h => ⟨h x List.mem_cons_self, zs_le (js := js) (by simpa using hl) fun y hy => h y (List.mem_cons_of_mem _ hy)⟩
  | [], _ :: _, h, _ => by simp at h
  | _ :: _, [], h, _ => by simp at h
theorem come_nl {t : Nat} : ∀ {js : List Job} {xs : List Int}, (∀ j, j ∈ js → 0 ≤ j.1) → Nl xs → Nl (comeL js xs t)
  | [], _, _, h => by rw [comeL_nil]; exact h
  | _ :: _, [], _, h => by unfold comeL; exact h
  | j :: js, x :: xs, hj, h => by
    have q := come_nl (t := t) (js := js) (xs := xs) (fun u hu => hj u (List.mem_cons_of_mem _ hu)) fun y hy => h y (List.mem_cons_of_mem _ hy)
    have a := hj j List.mem_cons_self
    have b := h x List.mem_cons_self
    unfold comeL
    intro y hy
    rcases List.mem_cons.mp hy with rfl | hy
    · split <;> omega
    · exact q y hy
theorem run_nl : ∀ {xs : List Int}, Nl xs → Nl (runL xs)
  | [], h => h
  | x :: xs, h => by
    have q := run_nl (xs := xs) fun y hy => h y (List.mem_cons_of_mem _ hy)
    have b := h x List.mem_cons_self
    unfold runL
    split
    · intro y hy
      rcases List.mem_cons.mp hy with rfl | hy
      · omega
      · exact h y (List.mem_cons_of_mem _ hy)
    · intro y hy
      rcases List.mem_cons.mp hy with rfl | hy
      · omega
      · exact q y hy
theorem st_nl {js : List Job} (hj : ∀ j, j ∈ js → 0 ≤ j.1) : ∀ t, Nl (st js t)
  | 0 => fun x hx => by
    unfold st zs at hx
    obtain ⟨_, _, rfl⟩ := List.mem_map.mp hx
    omega
  | t + 1 => by
    unfold st stp
    exact run_nl (come_nl hj (st_nl hj t))
/-! ### the common period -/
def Per (js : List Job) (c : Nat) : Prop := ∀ j, j ∈ js → 0 < j.2.1 ∧ j.2.1 ∣ (c : Int)
theorem per_mod {p : Int} {c t : Nat} (h : p ∣ (c : Int)) : ((t + c : Nat) : Int) % p = (t : Int) % p := by
  obtain ⟨k, hk⟩ := h
  rw [Int.natCast_add, hk, Int.add_mul_emod_self_left]
theorem come_per {t c : Nat} : ∀ {js : List Job} {xs : List Int}, Per js c → comeL js xs (t + c) = comeL js xs t
  | [], _, _ => by rw [comeL_nil, comeL_nil]
  | _ :: _, [], _ => by unfold comeL; rfl
  | j :: js, x :: xs, h => by
    unfold comeL
    rw [per_mod (h j List.mem_cons_self).2, come_per fun u hu => h u (List.mem_cons_of_mem _ hu)]
theorem miss_per {t c : Nat} : ∀ {js : List Job} {xs : List Int}, Per js c → missL js xs (t + c) = missL js xs t
  | [], _, _ => by rw [missL_nil, missL_nil]
  | _ :: _, [], _ => by unfold missL; rfl
  | j :: js, x :: xs, h => by
    unfold missL
    rw [per_mod (h j List.mem_cons_self).2, miss_per fun u hu => h u (List.mem_cons_of_mem _ hu)]
theorem st_up {js : List Job} {c : Nat} (hj : ∀ j, j ∈ js → 0 ≤ j.1) (h : Per js c) : ∀ t, Le (st js t) (st js (t + c))
  | 0 => by
    rw [Nat.zero_add]
    exact zs_le (st_len js c) (st_nl hj c)
  | t + 1 => by
    rw [show t + 1 + c = (t + c) + 1 by omega]
    show Le (stp js (st js t) t) (stp js (st js (t + c)) (t + c))
    unfold stp
    rw [come_per h]
    exact stp_mono (st_up hj h t)
theorem st_per {js : List Job} {c T : Nat} (h : Per js c) (he : st js (T + c) = st js T) : ∀ t, st js (T + t + c) = st js (T + t)
  | 0 => he
  | t + 1 => by
    have e := st_per h he t
    rw [show T + (t + 1) + c = (T + t + c) + 1 by omega, show T + (t + 1) = (T + t) + 1 by omega]
    show stp js (st js (T + t + c)) (T + t + c) = stp js (st js (T + t)) (T + t)
    rw [e]
    unfold stp
    rw [come_per h]
theorem ms_per {js : List Job} {c T : Nat} (h : Per js c) (he : st js (T + c) = st js T) (t : Nat) : ms js (T + t + c) = ms js (T + t) := by
  unfold ms
  rw [st_per h he, miss_per h]
/-! ### sums -/
theorem le_sum : ∀ {xs ys : List Int}, Le xs ys → xs.sum ≤ ys.sum ∧ (xs.sum = ys.sum → xs = ys)
  | [], [], _ => ⟨Int.le_refl _, fun _ => rfl⟩
  | x :: xs, y :: ys, h => by
    obtain ⟨a, b⟩ := le_sum h.2
    have c := h.1
    simp only [List.sum_cons]
    refine ⟨by omega, fun e => ?_⟩
    rw [b (by omega), show x = y by omega]
  | [], _ :: _, h => h.elim
  | _ :: _, [], h => h.elim
/-- without a miss no task has more left than its rungs -/
theorem come_le {t : Nat} : ∀ {js : List Job} {xs : List Int}, Nl xs → (∀ j, j ∈ js → 0 ≤ j.1) → Le xs (js.map (·.1)) → missL js xs t = none → Le (comeL js xs t) (js.map (·.1))
  | [], _, _, _, h, _ => by rw [comeL_nil]; exact h
  | _ :: _, [], _, _, h, _ => by unfold comeL; exact h
  | j :: js, x :: xs, hn, hj, h, hm => by
    have hx := hn x List.mem_cons_self
    have hj1 := hj j List.mem_cons_self
    have h1 : x ≤ j.1 := h.1
    unfold missL at hm
    by_cases c : (t : Int) % j.2.1 = j.2.2 ∧ 0 < x
    · rw [if_pos c] at hm; simp at hm
    · rw [if_neg c] at hm
      have hm2 : missL js xs t = none := by
        cases q : missL js xs t with
        | none => rfl
        | some m => rw [q] at hm; simp at hm
      unfold comeL
      refine ⟨?_, come_le (fun y hy => hn y (List.mem_cons_of_mem _ hy)) (fun u hu => hj u (List.mem_cons_of_mem _ hu)) h.2 hm2⟩
      split
      · rename_i a
        have : ¬ 0 < x := fun z => c ⟨a, z⟩
        show x + j.1 ≤ j.1
        omega
      · exact h1
theorem st_le {js : List Job} (hj : ∀ j, j ∈ js → 0 ≤ j.1) : ∀ t, (∀ u, u < t → ms js u = none) → Le (st js t) (js.map (·.1))
  | 0, _ => zs_le (by simp) fun x hx => by
    obtain ⟨j, hj2, rfl⟩ := List.mem_map.mp hx
    exact hj j hj2
  | t + 1, h => by
    have q := st_le hj t fun u hu => h u (by omega)
    unfold st stp
    exact Le.trans (run_mono.run_le _) (come_le (st_nl hj t) hj q (h t (by omega)))
/-! ### where first_miss stops -/
def rep (js : List Job) (c t : Nat) : Prop := t % c = 0 ∧ 0 < t ∧ st js (t - c) = st js t
instance (js : List Job) (c t : Nat) : Decidable (rep js c t) := inferInstanceAs (Decidable (_ ∧ _ ∧ _))
def stop (js : List Job) (c t : Nat) : Prop := rep js c t ∨ ms js t ≠ none
instance (js : List Job) (c t : Nat) : Decidable (stop js c t) := inferInstanceAs (Decidable (_ ∨ _))
theorem least {P : Nat → Prop} [DecidablePred P] : ∀ {n : Nat}, P n → ∃ m, m ≤ n ∧ P m ∧ ∀ k, k < m → ¬ P k
  | n, h => by
    by_cases q : ∃ m, m < n ∧ P m
    · obtain ⟨m, h1, h2⟩ := q
      obtain ⟨m2, a, b, c⟩ := least h2
      exact ⟨m2, by omega, b, c⟩
    · exact ⟨n, Nat.le_refl n, h, fun k hk z => q ⟨k, hk, z⟩⟩
theorem stop_by {js : List Job} {c : Nat} {S : Int} (hc : 0 < c) (hj : ∀ j, j ∈ js → 0 ≤ j.1) (hp : Per js c) (hS : (js.map (·.1)).sum ≤ S) (h0 : 0 ≤ S) : ∃ T, T ≤ c * (S.toNat + 1) ∧ stop js c T ∧ ∀ k, k < T → ¬ stop js c k := by
  by_cases q : ∃ n, n ≤ c * (S.toNat + 1) ∧ stop js c n
  · obtain ⟨n, h1, h2⟩ := q
    obtain ⟨m, a, b, d⟩ := least h2
    exact ⟨m, by omega, b, d⟩
  · exfalso
    have ns : ∀ n, n ≤ c * (S.toNat + 1) → ms js n = none := fun n hn => by
      cases e : ms js n with
      | none => rfl
      | some m => exact absurd ⟨n, hn, .inr (by rw [e]; simp)⟩ q
    have grow : ∀ k, k ≤ S.toNat + 1 → (k : Int) ≤ (st js (c * k)).sum := by
      intro k
      induction k with
      | zero =>
        intro _
        have : (st js (c * 0)).sum = (zs js).sum := rfl
        rw [this]
        have : ∀ l : List Job, (l.map fun _ => (0 : Int)).sum = 0 := fun l => by
          induction l with
          | nil => rfl
          | cons a l ih => rw [List.map_cons, List.sum_cons, ih]; rfl
        unfold zs
        rw [this]
        omega
      | succ k ih =>
        intro hk
        have i1 := ih (by omega)
        have up := st_up hj hp (c * k)
        obtain ⟨a, b⟩ := le_sum up
        have hne : st js (c * k) ≠ st js (c * k + c) := fun e => q ⟨c * k + c, by
          have : c * k + c = c * (k + 1) := by rw [Nat.mul_succ]
          rw [this]
          exact Nat.mul_le_mul_left c hk, .inl ⟨by rw [Nat.add_mod, Nat.mul_mod_right, Nat.mod_self]; rfl, by omega, by rw [Nat.add_sub_cancel]; exact e⟩⟩
        have : c * (k + 1) = c * k + c := Nat.mul_succ c k
        rw [this]
        have : ¬ (st js (c * k)).sum = (st js (c * k + c)).sum := fun e => hne (b e)
        omega
    have g := grow (S.toNat + 1) (Nat.le_refl _)
    have l := (le_sum (st_le hj (c * (S.toNat + 1)) fun u hu => ns u (by omega))).1
    omega
def ans (js : List Job) (c t : Nat) : Option (Int × Int) := if rep js c t then none else (ms js t).map fun k => ((k : Int), (t : Int))
/-- the first stop -/
structure At1 (js : List Job) (c T : Nat) : Prop where
  at_ : stop js c T
  no : ∀ k, k < T → ¬ stop js c k
theorem At1.none {js : List Job} {c T k : Nat} (h : At1 js c T) (hk : k < T) : ms js k = none := by
  cases e : ms js k with
  | none => rfl
  | some m => exact absurd (.inr (by rw [e]; simp)) (h.no k hk)
/-- what is kept of the standing at the tick -/
def seen (js : List Job) (c : Nat) : Nat → Option (List Int)
  | 0 => none
  | t + 1 => if t % c = 0 then some (st js t) else seen js c t
theorem seen_eq {js : List Job} {c : Nat} (hc : 0 < c) : ∀ {t : Nat}, 0 < t → t % c = 0 → seen js c t = some (st js (t - c)) := by
  have main : ∀ (i t : Nat), i < c → t % c = 0 → seen js c (t + i + 1) = some (st js t) := by
    intro i
    induction i with
    | zero =>
      intro t _ h
      unfold seen
      rw [if_pos (by simpa using h)]
    | succ i ih =>
      intro t hi h
      unfold seen
      rw [if_neg (by
        rw [Nat.add_mod, h, Nat.zero_add, Nat.mod_mod, Nat.mod_eq_of_lt hi]
        omega)]
      exact ih t (by omega) h
  intro t h0 h
  have hle : c ≤ t := Nat.le_of_dvd h0 (Nat.dvd_of_mod_eq_zero h)
  have e := main (c - 1) (t - c) (by omega) (by rw [← Nat.mod_eq_sub_mod hle]; exact h)
  rw [show t - c + (c - 1) + 1 = t by omega] at e
  exact e
end Tk

set_option Elab.async false
set_option linter.all false
set_option maxRecDepth 100000
set_option maxHeartbeats 1000000
/-! the ends of a task's jobs: plain -/
namespace Tk
def td (js : List Job) (i : Nat) (j : Job) : Nat → List Int
  | 0 => []
  | t + 1 => if whoL (comeL js (st js t) t) = some i ∧ (st js (t + 1))[i]? = some 0 then td js i j t ++ [((t : Int) + 1 - j.2.2) - ((td js i j t).length : Int) * j.2.1] else td js i j t
theorem td_succ (js : List Job) (i : Nat) (j : Job) (t : Nat) : td js i j (t + 1) = if whoL (comeL js (st js t) t) = some i ∧ (st js (t + 1))[i]? = some 0 then td js i j t ++ [((t : Int) + 1 - j.2.2) - ((td js i j t).length : Int) * j.2.1] else td js i j t := rfl
theorem td_grow (js : List Job) (i : Nat) (j : Job) (t : Nat) : (td js i j (t + 1)).length = (td js i j t).length ∨ (td js i j (t + 1)).length = (td js i j t).length + 1 := by
  rw [td_succ]
  split
  · right; simp
  · left; rfl
theorem td_len (js : List Job) (i : Nat) (j : Job) : ∀ t, (td js i j t).length ≤ t
  | 0 => Nat.le_refl _
  | t + 1 => by
    have := td_len js i j t
    rcases td_grow js i j t with h | h <;> omega
def stopE (js : List Job) (i : Nat) (j : Job) (many t : Nat) : Prop := (td js i j t).length = many ∨ ms js t ≠ none
instance (js : List Job) (i : Nat) (j : Job) (many t : Nat) : Decidable (stopE js i j many t) := inferInstanceAs (Decidable (_ ∨ _))
structure AtE (js : List Job) (i : Nat) (j : Job) (many T : Nat) : Prop where
  at_ : stopE js i j many T
  no : ∀ k, k < T → ¬ stopE js i j many k
theorem AtE.none {js : List Job} {i : Nat} {j : Job} {many T k : Nat} (h : AtE js i j many T) (hk : k < T) : ms js k = none := by
  cases e : ms js k with
  | none => rfl
  | some m => exact absurd (.inr (by rw [e]; simp)) (h.no k hk)
theorem AtE.le {js : List Job} {i : Nat} {j : Job} {many T : Nat} (h : AtE js i j many T) : ∀ k, k ≤ T → (td js i j k).length ≤ many
  | 0, _ => Nat.zero_le _
  | k + 1, hk => by
    have a := h.le k (by omega)
    have b : (td js i j k).length ≠ many := fun e => h.no k hk (.inl e)
    rcases td_grow js i j k with e | e <;> omega
/-- what is left of the task, and its jobs told and come -/
def Inv (js : List Job) (i : Nat) (j : Job) (t : Nat) : Prop := ∃ (n : Nat) (x : Int), (st js t)[i]? = some x ∧ 0 ≤ x ∧ ((n = 0 ∧ (t : Int) ≤ j.2.2) ∨ (1 ≤ n ∧ j.2.2 + ((n : Int) - 1) * j.2.1 < t ∧ (t : Int) ≤ j.2.2 + (n : Int) * j.2.1)) ∧ (td js i j t).length + (if 0 < x then 1 else 0) = n
theorem arrive {p o t : Int} {n : Nat} (hp : 0 < p) (ho : 0 ≤ o) (hop : o < p) (h : (n = 0 ∧ t ≤ o) ∨ (1 ≤ n ∧ o + ((n : Int) - 1) * p < t ∧ t ≤ o + (n : Int) * p)) (ht : 0 ≤ t) : (t % p = o ↔ t = o + (n : Int) * p) := by
  constructor
  · intro e
    have e1 := Int.mul_ediv_add_emod t p
    rw [e] at e1
    have q : t / p = n := by
      rcases h with ⟨rfl, h⟩ | ⟨h1, h2, h3⟩
      · have : 0 ≤ t / p := Int.ediv_nonneg ht (by omega)
        have : ¬ 0 < t / p := fun z => by
          have : p * 1 ≤ p * (t / p) := Int.mul_le_mul_of_nonneg_left (by omega) (by omega)
          omega
        show t / p = 0
        omega
      · have l1 : ((n : Int) - 1) * p < (t / p) * p := by rw [Int.mul_comm (t / p) p]; omega
        have l2 : (t / p) * p ≤ (n : Int) * p := by rw [Int.mul_comm (t / p) p]; omega
        have a1 : (n : Int) - 1 < t / p := Int.lt_of_mul_lt_mul_right l1 (by omega)
        have a2 : t / p ≤ n := Int.le_of_mul_le_mul_right l2 hp
        omega
    rw [q, Int.mul_comm] at e1
    omega
  · rintro rfl
    rw [Int.add_mul_emod_self_right]
    exact Int.emod_eq_of_lt ho hop
theorem missL_none : ∀ {js : List Job} {xs : List Int} {t k : Nat} {j : Job} {x : Int}, missL js xs t = none → js[k]? = some j → xs[k]? = some x → (t : Int) % j.2.1 = j.2.2 → x ≤ 0 := fun h h1 h2 h3 => by
  apply Int.not_lt.mp
  intro h4
  exact missL_some h1 h2 h3 h4 h
theorem inv_at {js : List Job} {i : Nat} {j : Job} (hr : 1 ≤ j.1) (hp : 0 < j.2.1) (ho : 0 ≤ j.2.2) (hop : j.2.2 < j.2.1) (hj : js[i]? = some j) : ∀ t, (∀ u, u < t → ms js u = none) → Inv js i j t
  | 0, _ => by
    have hi : i < js.length := (List.getElem?_eq_some_iff.mp hj).1
    refine ⟨0, 0, ?_, Int.le_refl _, .inl ⟨rfl, ho⟩, rfl⟩
    show (zs js)[i]? = some 0
    unfold zs
    rw [List.getElem?_map, hj]
    rfl
  | t + 1, h => by
    obtain ⟨n, x, hx, h0, hn, hc⟩ := inv_at hr hp ho hop hj t fun u hu => h u (by omega)
    have hm := h t (by omega)
    have ar := arrive hp ho hop hn (by omega)
    have c1 := comeL_at (t := t) hj hx
    have x0 : (t : Int) % j.2.1 = j.2.2 → x = 0 := fun e => by
      have := missL_none hm hj hx e
      omega
    -- the number come and what is left behind the coming
    obtain ⟨n', y, hy, hy0, hn', hc'⟩ : ∃ (n' : Nat) (y : Int), (comeL js (st js t) t)[i]? = some y ∧ 0 ≤ y ∧ ((n' = 0 ∧ (t : Int) + 1 ≤ j.2.2) ∨ (1 ≤ n' ∧ j.2.2 + ((n' : Int) - 1) * j.2.1 < t + 1 ∧ (t : Int) + 1 ≤ j.2.2 + (n' : Int) * j.2.1)) ∧ (td js i j t).length + (if 0 < y then 1 else 0) = n' := by
      by_cases e : (t : Int) % j.2.1 = j.2.2
      · have ex := x0 e
        have et := ar.mp e
        rw [if_pos e] at c1
        subst ex
        refine ⟨n + 1, 0 + j.1, c1, by omega, .inr ⟨by omega, ?_, ?_⟩, ?_⟩
        · rw [Int.natCast_add]
          have : ((n : Int) + ((1 : Nat) : Int) - 1) = n := by omega
          rw [this]
          omega
        · rw [Int.natCast_add, Int.add_mul]
          omega
        · rw [if_pos (by omega)]
          simp at hc
          omega
      · rw [if_neg e] at c1
        refine ⟨n, x, c1, h0, ?_, hc⟩
        rcases hn with ⟨a, b⟩ | ⟨a, b, d⟩
        · left
          refine ⟨a, ?_⟩
          have : ¬ (t : Int) = j.2.2 := fun z => e (ar.mpr (by rw [a]; simpa using z))
          omega
        · right
          refine ⟨a, by omega, ?_⟩
          have : ¬ (t : Int) = j.2.2 + (n : Int) * j.2.1 := fun z => e (ar.mpr z)
          omega
    have r1 := runL_at hy
    have est : (st js (t + 1)) = runL (comeL js (st js t) t) := rfl
    unfold Inv
    by_cases w : whoL (comeL js (st js t) t) = some i
    · rw [if_pos w, ← est] at r1
      obtain ⟨y', hy', pos⟩ := who_pos w
      rw [hy] at hy'
      cases hy'
      refine ⟨n', y - 1, r1, by omega, by rw [Int.natCast_add]; exact hn', ?_⟩
      rw [if_pos pos] at hc'
      rw [td_succ]
      by_cases z : y - 1 = 0
      · rw [if_pos ⟨w, by rw [r1, z]⟩, if_neg (by omega), List.length_append]
        simp
        omega
      · rw [if_neg (fun q => z (by rw [r1] at q; exact Option.some.inj q.2)), if_pos (by omega)]
        exact hc'
    · rw [if_neg w, ← est] at r1
      refine ⟨n', y, r1, hy0, by rw [Int.natCast_add]; exact hn', ?_⟩
      rw [td_succ, if_neg fun q => w q.1]
      exact hc'
theorem stopE_by {js : List Job} {i : Nat} {j : Job} {many B : Nat} (hr : 1 ≤ j.1) (hp : 0 < j.2.1) (ho : 0 ≤ j.2.2) (hop : j.2.2 < j.2.1) (hj : js[i]? = some j) (hB : j.2.2 + (many : Int) * j.2.1 ≤ B) : ∃ T, T ≤ B ∧ AtE js i j many T := by
  have ex : ∃ n, n ≤ B ∧ stopE js i j many n := by
    by_cases q : ∃ n, n ≤ B ∧ stopE js i j many n
    · exact q
    · exfalso
      have ns : ∀ n, n ≤ B → ms js n = none := fun n hn => by
        cases e : ms js n with
        | none => rfl
        | some m => exact absurd ⟨n, hn, .inr (by rw [e]; simp)⟩ q
      have hnn : 0 ≤ (many : Int) * j.2.1 := Int.mul_nonneg (by omega) (by omega)
      have hN : ((j.2.2 + (many : Int) * j.2.1).toNat : Int) = j.2.2 + (many : Int) * j.2.1 := Int.toNat_of_nonneg (by omega)
      generalize (j.2.2 + (many : Int) * j.2.1).toNat = N at hN
      obtain ⟨n, x, hx, h0, hn, hc⟩ := inv_at hr hp ho hop hj N fun u hu => ns u (by omega)
      have hnm : n = many := by
        rcases hn with ⟨a, b⟩ | ⟨a, b, c⟩
        · subst a
          by_cases z : many = 0
          · omega
          · have : 1 * j.2.1 ≤ (many : Int) * j.2.1 := Int.mul_le_mul_of_nonneg_right (by omega) (by omega)
            omega
        · have l1 : ((n : Int) - 1) * j.2.1 < (many : Int) * j.2.1 := by omega
          have l2 : (many : Int) * j.2.1 ≤ (n : Int) * j.2.1 := by omega
          have a1 := Int.lt_of_mul_lt_mul_right l1 (by omega)
          have a2 := Int.le_of_mul_le_mul_right l2 hp
          omega
      subst hnm
      have ar := (arrive hp ho hop hn (by omega)).mpr (by omega)
      have x0 := missL_none (ns N (by omega)) hj hx ar
      rw [if_neg (by omega)] at hc
      exact q ⟨N, by omega, .inl (by omega)⟩
  obtain ⟨n, h1, h2⟩ := ex
  obtain ⟨m, a, b, c⟩ := least h2
  exact ⟨m, by omega, b, c⟩
end Tk

set_option Elab.async false
set_option linter.all false
set_option maxRecDepth 100000
set_option maxHeartbeats 1000000
/-! the critical instant: plain -/
namespace Tk
def okJ (j : Job) : Prop := 1 ≤ j.1 ∧ j.1 ≤ 12 ∧ 1 ≤ j.2.1 ∧ j.2.1 ≤ 24 ∧ 0 ≤ j.2.2 ∧ j.2.2 < j.2.1
def cl (x T : Int) : Int := -((-x) / T)
theorem cl_eq {x T : Int} (h : 0 < T) : (x + T - 1) / T = cl x T := by
  unfold cl
  have e := Int.mul_ediv_add_emod (-x) T
  have r0 := Int.emod_nonneg (-x) (show T ≠ 0 by omega)
  have r1 := Int.emod_lt_of_pos (-x) h
  have : (x + T - 1) / T = -((-x) / T) ∧ (x + T - 1) % T = T - 1 - (-x) % T := by
    refine (Int.ediv_emod_unique h).mpr ⟨?_, by omega, by omega⟩
    rw [Int.mul_neg]
    omega
  exact this.1
theorem cl_mono {x y T : Int} (h : 0 < T) (hxy : x ≤ y) : cl x T ≤ cl y T := by
  unfold cl
  have : (-y) / T ≤ (-x) / T := Int.ediv_le_ediv h (by omega)
  omega
theorem cl_nonneg {x T : Int} (h : 0 < T) (hx : 0 ≤ x) : 0 ≤ cl x T := by
  have := cl_mono h hx
  have z : cl 0 T = 0 := by unfold cl; simp
  omega
/-- (c - 1) T < x brings c ≤ cl x T -/
theorem le_cl {x T c : Int} (h : 0 < T) (hc : (c - 1) * T < x) : c ≤ cl x T := by
  unfold cl
  have e : (-x) / T < -(c - 1) := Int.ediv_lt_of_lt_mul h (by rw [Int.neg_mul]; omega)
  omega
/-- x ≤ c T brings cl x T ≤ c -/
theorem cl_le {x T c : Int} (h : 0 < T) (hc : x ≤ c * T) : cl x T ≤ c := by
  unfold cl
  have e : -c ≤ (-x) / T := (Int.le_ediv_iff_mul_le h).mpr (by rw [Int.neg_mul]; omega)
  omega
def loadS (hp : List Job) (x : Int) : Int := (hp.map fun u => u.1 * cl x u.2.1).sum
theorem loadS_mono : ∀ {hp : List Job} {x y : Int}, (∀ j, j ∈ hp → okJ j) → x ≤ y → loadS hp x ≤ loadS hp y
  | [], _, _, _, _ => Int.le_refl _
  | u :: hp, x, y, h, hxy => by
    obtain ⟨h1, _, h3, _⟩ := h u List.mem_cons_self
    have a := loadS_mono (hp := hp) (fun j hj => h j (List.mem_cons_of_mem _ hj)) hxy
    have b : u.1 * cl x u.2.1 ≤ u.1 * cl y u.2.1 := Int.mul_le_mul_of_nonneg_left (cl_mono (by omega) hxy) (by omega)
    unfold loadS at a ⊢
    simp only [List.map_cons, List.sum_cons]
    omega
theorem loadS_nonneg : ∀ {hp : List Job} {x : Int}, (∀ j, j ∈ hp → okJ j) → 0 ≤ x → 0 ≤ loadS hp x
  | [], _, _, _ => Int.le_refl _
  | u :: hp, x, h, hx => by
    obtain ⟨h1, _, h3, _⟩ := h u List.mem_cons_self
    have a := loadS_nonneg (hp := hp) (fun j hj => h j (List.mem_cons_of_mem _ hj)) hx
    have b : 0 ≤ u.1 * cl x u.2.1 := Int.mul_nonneg (by omega) (cl_nonneg (by omega) hx)
    unfold loadS at a ⊢
    simp only [List.map_cons, List.sum_cons]
    omega
theorem take_ok {js : List Job} {i : Nat} (hok : ∀ j, j ∈ js → okJ j) : ∀ u, u ∈ js.take i → okJ u := fun u hu => hok u (List.mem_of_mem_take hu)
/-! ### levels -/
theorem come_take {t : Nat} : ∀ (js : List Job) (xs : List Int) (i : Nat), (comeL js xs t).take i = comeL (js.take i) (xs.take i) t
  | [], xs, i => by rw [comeL_nil, List.take_nil, comeL_nil]
  | _ :: _, xs, 0 => by simp [comeL]
  | _ :: _, [], i + 1 => by simp [comeL]
  | j :: js, x :: xs, i + 1 => by
    simp only [comeL, List.take_succ_cons]
    rw [come_take js xs i]
theorem run_take : ∀ (xs : List Int) (i : Nat), (runL xs).take i = runL (xs.take i)
  | [], i => by simp [runL]
  | x :: xs, 0 => by simp [runL]
  | x :: xs, i + 1 => by
    rw [List.take_succ_cons]
    unfold runL
    by_cases c : 0 < x
    · rw [if_pos c, if_pos c, List.take_succ_cons]
    · rw [if_neg c, if_neg c, List.take_succ_cons, run_take xs i]
theorem st_take (js : List Job) (i : Nat) : ∀ t, (st js t).take i = st (js.take i) t
  | 0 => by unfold st zs; rw [List.map_take]
  | t + 1 => by
    unfold st stp
    rw [run_take, come_take, st_take js i t]
def arr (js : List Job) (t : Nat) : Int := (js.map fun j => if (t : Int) % j.2.1 = j.2.2 then j.1 else 0).sum
theorem sum_come {t : Nat} : ∀ {js : List Job} {xs : List Int}, xs.length = js.length → (comeL js xs t).sum = xs.sum + arr js t
  | [], [], _ => rfl
  | j :: js, x :: xs, h => by
    have a := sum_come (t := t) (js := js) (xs := xs) (by simpa using h)
    unfold arr at a ⊢
    simp only [comeL, List.sum_cons, List.map_cons]
    split <;> omega
  | [], _ :: _, h => by simp at h
  | _ :: _, [], h => by simp at h
theorem sum_nn : ∀ {xs : List Int}, Nl xs → 0 ≤ xs.sum
  | [], _ => Int.le_refl _
  | x :: xs, h => by
    have a := sum_nn (xs := xs) fun y hy => h y (List.mem_cons_of_mem _ hy)
    have b := h x List.mem_cons_self
    rw [List.sum_cons]
    omega
theorem sum_run : ∀ {xs : List Int}, Nl xs → (runL xs).sum = if 0 < xs.sum then xs.sum - 1 else xs.sum
  | [], _ => rfl
  | x :: xs, h => by
    have hn : Nl xs := fun y hy => h y (List.mem_cons_of_mem _ hy)
    have a := sum_run hn
    have b := h x List.mem_cons_self
    have c := sum_nn hn
    unfold runL
    by_cases d : 0 < x
    · rw [if_pos d, List.sum_cons, List.sum_cons, if_pos (by omega)]
      omega
    · have : x = 0 := by omega
      subst this
      rw [if_neg d, List.sum_cons, List.sum_cons, a, Int.zero_add, Int.zero_add]
def V (js : List Job) (t : Nat) : Int := (st js t).sum
theorem V_nn {js : List Job} (hj : ∀ j, j ∈ js → 0 ≤ j.1) (t : Nat) : 0 ≤ V js t := sum_nn (st_nl hj t)
theorem V_succ {js : List Job} (hj : ∀ j, j ∈ js → 0 ≤ j.1) (t : Nat) : V js (t + 1) = if 0 < V js t + arr js t then V js t + arr js t - 1 else V js t + arr js t := by
  show (runL (comeL js (st js t) t)).sum = _
  rw [sum_run (come_nl hj (st_nl hj t)), sum_come (st_len js t)]
  rfl
def A (js : List Job) (s : Nat) : Nat → Int
  | 0 => 0
  | n + 1 => A js s n + arr js (s + n)
def cnt (j : Job) (s : Nat) : Nat → Int
  | 0 => 0
  | n + 1 => cnt j s n + (if ((s + n : Nat) : Int) % j.2.1 = j.2.2 then 1 else 0)
theorem A_cons (j : Job) (js : List Job) (s : Nat) : ∀ n, A (j :: js) s n = j.1 * cnt j s n + A js s n
  | 0 => by simp [A, cnt]
  | n + 1 => by
    have a := A_cons j js s n
    unfold A cnt
    rw [a]
    have e : arr (j :: js) (s + n) = (if ((s + n : Nat) : Int) % j.2.1 = j.2.2 then j.1 else 0) + arr js (s + n) := by
      unfold arr
      rw [List.map_cons, List.sum_cons]
    rw [e, Int.mul_add]
    split
    · rw [Int.mul_one]; omega
    · rw [Int.mul_zero]; omega
theorem A_nil (s : Nat) : ∀ n, A [] s n = 0
  | 0 => rfl
  | n + 1 => by unfold A; rw [A_nil s n]; rfl
/-- two comings lie a period apart -/
theorem apart {p o a b : Int} (hp : 0 < p) (ha : a % p = o) (hb : b % p = o) (h : a < b) : a + p ≤ b := by
  have e1 := Int.mul_ediv_add_emod a p
  have e2 := Int.mul_ediv_add_emod b p
  have : a / p < b / p := by
    apply Int.lt_of_mul_lt_mul_left (a := p) _ (by omega)
    omega
  have : p * (a / p + 1) ≤ p * (b / p) := Int.mul_le_mul_of_nonneg_left (by omega) (by omega)
  rw [Int.mul_add, Int.mul_one] at this
  omega
theorem cnt_le {j : Job} (hp : 0 < j.2.1) (s : Nat) : ∀ n : Nat, cnt j s n = 0 ∨ ∃ l : Nat, l < n ∧ ((s + l : Nat) : Int) % j.2.1 = j.2.2 ∧ (cnt j s n - 1) * j.2.1 ≤ l
  | 0 => .inl rfl
  | n + 1 => by
    have ih := cnt_le hp s n
    unfold cnt
    by_cases c : ((s + n : Nat) : Int) % j.2.1 = j.2.2
    · rw [if_pos c]
      right
      refine ⟨n, by omega, c, ?_⟩
      rcases ih with e | ⟨l, h1, h2, h3⟩
      · rw [e]
        simp
      · have := apart hp h2 c (by omega)
        have e : (cnt j s n + 1 - 1) * j.2.1 = (cnt j s n - 1) * j.2.1 + j.2.1 := by
          rw [show cnt j s n + 1 - 1 = (cnt j s n - 1) + 1 by omega, Int.add_mul, Int.one_mul]
        rw [e]
        omega
    · rw [if_neg c, Int.add_zero]
      rcases ih with e | ⟨l, h1, h2, h3⟩
      · exact .inl e
      · exact .inr ⟨l, by omega, h2, h3⟩
theorem A_le : ∀ {js : List Job} (s n : Nat), (∀ j, j ∈ js → okJ j) → A js s n ≤ loadS js n
  | [], s, n, _ => by rw [A_nil]; exact Int.le_refl _
  | j :: js, s, n, h => by
    have a := A_le (js := js) s n fun u hu => h u (List.mem_cons_of_mem _ hu)
    obtain ⟨h1, _, h3, _⟩ := h j List.mem_cons_self
    have b : cnt j s n ≤ cl n j.2.1 := by
      rcases cnt_le (j := j) (by omega) s n with e | ⟨l, q1, q2, q3⟩
      · rw [e]; exact cl_nonneg (by omega) (by omega)
      · exact le_cl (by omega) (by omega)
    have c : j.1 * cnt j s n ≤ j.1 * cl n j.2.1 := Int.mul_le_mul_of_nonneg_left b (by omega)
    rw [A_cons]
    unfold loadS at a ⊢
    rw [List.map_cons, List.sum_cons]
    omega
theorem cnt_ge {j : Job} (hp : 0 < j.2.1) (ho : j.2.2 = 0) : ∀ n : Nat, (n : Int) ≤ cnt j 0 n * j.2.1
  | 0 => by simp [cnt]
  | n + 1 => by
    have ih := cnt_ge hp ho n
    unfold cnt
    rw [Nat.zero_add, ho]
    by_cases c : (n : Int) % j.2.1 = 0
    · rw [if_pos c, Int.add_mul, Int.one_mul]
      omega
    · rw [if_neg c, Int.add_zero]
      have : (n : Int) ≠ cnt j 0 n * j.2.1 := fun e => c (by rw [e]; exact Int.mul_emod_left _ _)
      omega
theorem A_ge : ∀ {js : List Job} (n : Nat), (∀ j, j ∈ js → okJ j) → (∀ j, j ∈ js → j.2.2 = 0) → loadS js n ≤ A js 0 n
  | [], n, _, _ => by rw [A_nil]; exact Int.le_refl _
  | j :: js, n, h, h0 => by
    have a := A_ge (js := js) n (fun u hu => h u (List.mem_cons_of_mem _ hu)) fun u hu => h0 u (List.mem_cons_of_mem _ hu)
    obtain ⟨h1, _, h3, _⟩ := h j List.mem_cons_self
    have b : cl n j.2.1 ≤ cnt j 0 n := cl_le (by omega) (cnt_ge (by omega) (h0 j List.mem_cons_self) n)
    have c : j.1 * cl n j.2.1 ≤ j.1 * cnt j 0 n := Int.mul_le_mul_of_nonneg_left b (by omega)
    rw [A_cons]
    unfold loadS at a ⊢
    rw [List.map_cons, List.sum_cons]
    omega
/-! ### one task and what is more urgent -/
section
variable {js : List Job} {i : Nat} {j : Job}
theorem take_succ_eq (hj : js[i]? = some j) : js.take (i + 1) = js.take i ++ [j] := by
  rw [List.take_succ, hj]
  rfl
theorem nn_of (hok : ∀ j, j ∈ js → okJ j) : ∀ j, j ∈ js → 0 ≤ j.1 := fun j hj => by have := (hok j hj).1; omega
theorem V_lev (hj : js[i]? = some j) {t : Nat} {x : Int} (hx : (st js t)[i]? = some x) : V (js.take (i + 1)) t = V (js.take i) t + x := by
  unfold V
  rw [← st_take, ← st_take, List.take_succ, hx, List.sum_append]
  simp
theorem arr_lev (hj : js[i]? = some j) (t : Nat) : arr (js.take (i + 1)) t = arr (js.take i) t + (if (t : Int) % j.2.1 = j.2.2 then j.1 else 0) := by
  rw [take_succ_eq hj]
  unfold arr
  rw [List.map_append, List.sum_append]
  simp
theorem arr_nn (hok : ∀ j, j ∈ js → okJ j) (t : Nat) : 0 ≤ arr js t := by
  unfold arr
  refine sum_nn fun x hx => ?_
  obtain ⟨j, hj, rfl⟩ := List.mem_map.mp hx
  have := (hok j hj).1
  split <;> omega
/-- what a tick does to the level: y is what the task has behind the coming -/
theorem lev_step (hok : ∀ j, j ∈ js → okJ j) (hj : js[i]? = some j) {t : Nat} {x x' : Int} (hx : (st js t)[i]? = some x) (hx' : (st js (t + 1))[i]? = some x')
    (hy : 0 < x + (if (t : Int) % j.2.1 = j.2.2 then j.1 else 0)) : V (js.take i) (t + 1) + x' = V (js.take i) t + arr (js.take i) t + (x + (if (t : Int) % j.2.1 = j.2.2 then j.1 else 0)) - 1 := by
  have e := V_succ (nn_of (take_ok (i := i + 1) hok)) t
  rw [V_lev hj hx', V_lev hj hx, arr_lev hj] at e
  have a := V_nn (nn_of (take_ok (i := i) hok)) t
  have b := arr_nn (take_ok (i := i) hok) t
  rw [if_pos (by omega)] at e
  omega
/-- the busy stretch of what is more urgent -/
theorem busy (hok : ∀ j, j ∈ js → okJ j) (hj : js[i]? = some j) {R : Nat} (hR : 1 ≤ R) (hf : j.1 + loadS (js.take i) R = R) : ∀ t : Nat, ∃ s : Nat, s ≤ t ∧ t - s < R ∧ V (js.take i) t = A (js.take i) s (t - s) - ((t - s : Nat) : Int)
  | 0 => ⟨0, Nat.le_refl _, hR, by
    show (st (js.take i) 0).sum = _
    have : ∀ l : List Job, (l.map fun _ => (0 : Int)).sum = 0 := fun l => by
      induction l with
      | nil => rfl
      | cons a l ih => rw [List.map_cons, List.sum_cons, ih]; rfl
    unfold st zs
    rw [this]
    simp [A]⟩
  | t + 1 => by
    obtain ⟨s, h1, h2, h3⟩ := busy hok hj hR hf t
    have hk := take_ok (i := i) hok
    have e := V_succ (nn_of hk) t
    have v0 := V_nn (nn_of hk) t
    have v1 := V_nn (nn_of hk) (t + 1)
    have a0 := arr_nn hk t
    have hc : 1 ≤ j.1 := (hok j (List.mem_of_getElem? hj)).1
    by_cases c : 0 < V (js.take i) t + arr (js.take i) t
    · rw [if_pos c] at e
      have es : t + 1 - s = (t - s) + 1 := by omega
      have eA : A (js.take i) s (t + 1 - s) = A (js.take i) s (t - s) + arr (js.take i) t := by
        rw [es]
        show A (js.take i) s (t - s) + arr (js.take i) (s + (t - s)) = _
        rw [show s + (t - s) = t by omega]
      refine ⟨s, by omega, ?_, by rw [eA, es, Int.natCast_add]; omega⟩
      rcases Nat.lt_or_ge (t + 1 - s) R with q | q
      · exact q
      · have hb := A_le (js := js.take i) s R hk
        have : t + 1 - s = R := by omega
        rw [this] at eA
        omega
    · rw [if_neg c] at e
      exact ⟨t + 1, Nat.le_refl _, by omega, by
        rw [Nat.sub_self]
        simp [A]
        omega⟩
/-- a job that is not done -/
theorem pend (hok : ∀ j, j ∈ js → okJ j) (hj : js[i]? = some j) {R : Nat} (hR : 1 ≤ R) (hf : j.1 + loadS (js.take i) R = R) : ∀ (t : Nat) (x : Int), (∀ u, u < t → ms js u = none) → (st js t)[i]? = some x → 0 < x →
    ∃ s a : Nat, s ≤ a ∧ a < t ∧ (a : Int) % j.2.1 = j.2.2 ∧ (t : Int) ≤ a + j.2.1 ∧ t - s < R ∧ V (js.take i) t + x = A (js.take i) s (t - s) + j.1 - ((t - s : Nat) : Int)
  | 0, x, _, hx, h0 => by
    exfalso
    have : (zs js)[i]? = some x := hx
    unfold zs at this
    rw [List.getElem?_map, hj] at this
    cases this
    exact absurd (show (0 : Int) < 0 from h0) (by omega)
  | t + 1, x', hn, hx', h0 => by
    have hk := take_ok (i := i) hok
    have v1 := V_nn (nn_of hk) (t + 1)
    obtain ⟨c1, _, c3, _, c5, c6⟩ := hok j (List.mem_of_getElem? hj)
    have hi : i < js.length := (List.getElem?_eq_some_iff.mp hj).1
    obtain ⟨x, hx⟩ : ∃ x, (st js t)[i]? = some x := ⟨_, List.getElem?_eq_getElem (by rw [st_len]; exact hi)⟩
    have x0 : 0 ≤ x := st_nl (nn_of hok) t x (List.mem_of_getElem? hx)
    have hm := hn t (by omega)
    -- where the busy stretch began, when the job came, and the account ahead of the run
    obtain ⟨s, a, q1, q2, q3, q4, q5, q6, q7⟩ : ∃ s a : Nat, s ≤ a ∧ a < t + 1 ∧ (a : Int) % j.2.1 = j.2.2 ∧ ((t + 1 : Nat) : Int) ≤ a + j.2.1 ∧ t - s < R ∧ 0 < x + (if (t : Int) % j.2.1 = j.2.2 then j.1 else 0) ∧
        V (js.take i) t + (x + (if (t : Int) % j.2.1 = j.2.2 then j.1 else 0)) = A (js.take i) s (t - s) + j.1 - ((t - s : Nat) : Int) := by
      by_cases c : (t : Int) % j.2.1 = j.2.2
      · have z := missL_none hm hj hx c
        obtain ⟨s, h1, h2, h3⟩ := busy hok hj hR hf t
        rw [if_pos c]
        exact ⟨s, t, h1, by omega, c, by omega, h2, by omega, by omega⟩
      · rw [if_neg c]
        have y0 : 0 < x := by
          apply Int.not_le.mp
          intro z
          have e1 := comeL_at (t := t) hj hx
          rw [if_neg c] at e1
          have e2 := runL_at e1
          have e3 : (st js (t + 1))[i]? = some (if whoL (comeL js (st js t) t) = some i then x - 1 else x) := e2
          rw [hx'] at e3
          have e4 := Option.some.inj e3
          split at e4 <;> omega
        obtain ⟨s, a, h1, h2, h3, h4, h5, h6⟩ := pend hok hj hR hf t x (fun u hu => hn u (by omega)) hx y0
        refine ⟨s, a, h1, by omega, h3, ?_, h5, by omega, by omega⟩
        have : (t : Int) ≠ a + j.2.1 := fun e => c (by rw [e, Int.add_emod_right]; exact h3)
        omega
    have e := lev_step hok hj hx hx' q6
    have es : t + 1 - s = (t - s) + 1 := by omega
    have eA : A (js.take i) s (t + 1 - s) = A (js.take i) s (t - s) + arr (js.take i) t := by
      rw [es]
      show A (js.take i) s (t - s) + arr (js.take i) (s + (t - s)) = _
      rw [show s + (t - s) = t by omega]
    refine ⟨s, a, q1, q2, q3, q4, ?_, by rw [eA, es, Int.natCast_add]; omega⟩
    rcases Nat.lt_or_ge (t + 1 - s) R with q | q
    · exact q
    · have hb := A_le (js := js.take i) s R hk
      have : t + 1 - s = R := by omega
      rw [this] at eA
      omega
/-- a job that ends at the tick: its coming, its time -/
def Done (js : List Job) (i : Nat) (j : Job) (f : Nat) (v : Int) : Prop := whoL (comeL js (st js f) f) = some i ∧ (st js (f + 1))[i]? = some 0 ∧ ∃ a : Int, 0 ≤ a ∧ a % j.2.1 = j.2.2 ∧ a ≤ f ∧ (f : Int) < a + j.2.1 ∧ v = f + 1 - a
theorem same_a {p o a b f : Int} (hp : 0 < p) (ha : a % p = o) (hb : b % p = o) (h1 : a ≤ f) (h2 : f < a + p) (h3 : b ≤ f) (h4 : f < b + p) : a = b := by
  rcases Int.lt_trichotomy a b with q | q | q
  · have := apart hp ha hb q; omega
  · exact q
  · have := apart hp hb ha q; omega
/-- no job takes longer -/
theorem crit (hok : ∀ j, j ∈ js → okJ j) (hj : js[i]? = some j) {R : Nat} (hR : 1 ≤ R) (hf : j.1 + loadS (js.take i) R = R) {f : Nat} {v : Int} (hn : ∀ u, u ≤ f → ms js u = none) (h : Done js i j f v) : v ≤ R := by
  obtain ⟨h1, h2, a, b0, b1, b2, b3, rfl⟩ := h
  obtain ⟨c1, _, c3, _, c5, c6⟩ := hok j (List.mem_of_getElem? hj)
  have hi : i < js.length := (List.getElem?_eq_some_iff.mp hj).1
  obtain ⟨x, hx⟩ : ∃ x, (st js f)[i]? = some x := ⟨_, List.getElem?_eq_getElem (by rw [st_len]; exact hi)⟩
  have x0 : 0 ≤ x := st_nl (nn_of hok) f x (List.mem_of_getElem? hx)
  obtain ⟨y, hy, hy0⟩ := who_pos h1
  have e1 := comeL_at (t := f) hj hx
  rw [hy] at e1
  have e2 := Option.some.inj e1
  by_cases c : (f : Int) % j.2.1 = j.2.2
  · have : a = f := same_a (f := (f : Int)) (by omega) b1 c b2 b3 (by omega) (by omega)
    omega
  · rw [if_neg c] at e2
    obtain ⟨s, a', q1, q2, q3, q4, q5, q6⟩ := pend hok hj hR hf f x (fun u hu => hn u (by omega)) hx (by omega)
    have : (f : Int) ≠ a' + j.2.1 := fun e => c (by rw [e, Int.add_emod_right]; exact q3)
    have : a = a' := same_a (f := (f : Int)) (by omega) b1 q3 b2 b3 (by omega) (by omega)
    omega
end
theorem miss_is : ∀ {js : List Job} {xs : List Int} {t m : Nat}, missL js xs t = some m → ∃ j x, js[m]? = some j ∧ xs[m]? = some x ∧ (t : Int) % j.2.1 = j.2.2 ∧ 0 < x
  | [], xs, t, m, h => by rw [missL_nil] at h; cases h
  | _ :: _, [], t, m, h => by unfold missL at h; cases h
  | j :: js, x :: xs, t, m, h => by
    unfold missL at h
    by_cases c : (t : Int) % j.2.1 = j.2.2 ∧ 0 < x
    · rw [if_pos c] at h
      cases h
      exact ⟨j, x, rfl, rfl, c.1, c.2⟩
    · rw [if_neg c] at h
      cases q : missL js xs t with
      | none => rw [q] at h; cases h
      | some k =>
        rw [q] at h
        cases h
        obtain ⟨j', x', h1, h2, h3⟩ := miss_is q
        exact ⟨j', x', by rw [List.getElem?_cons_succ]; exact h1, by rw [List.getElem?_cons_succ]; exact h2, h3⟩
/-- place i with the job j has its time -/
structure Fix (js : List Job) (i : Nat) (j : Job) (R : Nat) : Prop where
  pos : 1 ≤ R
  le : (R : Int) ≤ j.2.1
  fix : j.1 + loadS (js.take i) R = R
  lb : ∀ t : Nat, 1 ≤ t → (t : Int) ≤ j.2.1 → j.1 + loadS (js.take i) t ≤ t → R ≤ t
/-- all have their time: nothing is missed -/
theorem no_miss {js : List Job} (hok : ∀ j, j ∈ js → okJ j) (hF : ∀ i j, js[i]? = some j → ∃ R, Fix js i j R) : ∀ t, ms js t = none := by
  intro t
  induction t using Nat.strongRecOn with
  | _ t ih =>
    cases e : ms js t with
    | none => rfl
    | some m =>
      exfalso
      obtain ⟨j, x, hj, hx, hc, h0⟩ := miss_is e
      obtain ⟨R, F⟩ := hF m j hj
      obtain ⟨c1, _, c3, _⟩ := hok j (List.mem_of_getElem? hj)
      obtain ⟨s, a, q1, q2, q3, q4, q5, q6⟩ := pend hok hj F.pos F.fix t x ih hx h0
      have := apart (by omega) q3 hc (by omega)
      have := F.le
      omega
/-! ### all come at once -/
section
variable {js : List Job} {i : Nat} {j : Job}
theorem who_zero : ∀ {xs : List Int} {i : Nat}, Nl xs → whoL xs = some i → (xs.take i).sum = 0
  | [], _, _, h => by simp [whoL] at h
  | x :: xs, i, hn, h => by
    have hx := hn x List.mem_cons_self
    unfold whoL at h
    by_cases c : 0 < x
    · rw [if_pos c] at h
      cases h
      rfl
    · rw [if_neg c] at h
      cases q : whoL xs with
      | none => rw [q] at h; cases h
      | some k =>
        rw [q] at h
        cases h
        have := who_zero (fun y hy => hn y (List.mem_cons_of_mem _ hy)) q
        rw [List.take_succ_cons, List.sum_cons, this]
        omega
/-- as long as no t ends it, the first job is not done -/
theorem first_pend (hok : ∀ j, j ∈ js → okJ j) (h0 : ∀ j, j ∈ js → j.2.2 = 0) (hj : js[i]? = some j) : ∀ t : Nat, 1 ≤ t → (t : Int) ≤ j.2.1 → (∀ u : Nat, 1 ≤ u → u ≤ t → ¬ j.1 + loadS (js.take i) u ≤ u) → ∀ x, (st js t)[i]? = some x → 0 < x ∧ V (js.take i) t + x = A (js.take i) 0 t + j.1 - (t : Int)
  | 0, h, _, _, _, _ => absurd h (by omega)
  | t + 1, _, hp, hu, x', hx' => by
    have hk := take_ok (i := i) hok
    obtain ⟨c1, _, c3, _, c5, c6⟩ := hok j (List.mem_of_getElem? hj)
    have z0 := h0 j (List.mem_of_getElem? hj)
    have hi : i < js.length := (List.getElem?_eq_some_iff.mp hj).1
    obtain ⟨x, hx⟩ : ∃ x, (st js t)[i]? = some x := ⟨_, List.getElem?_eq_getElem (by rw [st_len]; exact hi)⟩
    have x0 : 0 ≤ x := st_nl (nn_of hok) t x (List.mem_of_getElem? hx)
    have acc : 0 < x + (if (t : Int) % j.2.1 = j.2.2 then j.1 else 0) ∧ V (js.take i) t + (x + (if (t : Int) % j.2.1 = j.2.2 then j.1 else 0)) = A (js.take i) 0 t + j.1 - (t : Int) := by
      by_cases e : t = 0
      · subst e
        have c : ((0 : Nat) : Int) % j.2.1 = j.2.2 := by rw [z0]; simp
        have : (zs js)[i]? = some x := hx
        unfold zs at this
        rw [List.getElem?_map, hj] at this
        cases this
        rw [if_pos c]
        have v0 : V (js.take i) 0 = 0 := by
          show (zs (js.take i)).sum = 0
          have : ∀ l : List Job, (l.map fun _ => (0 : Int)).sum = 0 := fun l => by
            induction l with
            | nil => rfl
            | cons a l ih => rw [List.map_cons, List.sum_cons, ih]; rfl
          exact this _
        rw [v0]
        refine ⟨by omega, ?_⟩
        simp [A]
      · have c : ¬ (t : Int) % j.2.1 = j.2.2 := by
          rw [z0, Int.emod_eq_of_lt (by omega) (by omega)]
          omega
        obtain ⟨a, b⟩ := first_pend hok h0 hj t (by omega) (by omega) (fun u h1 h2 => hu u h1 (by omega)) x hx
        rw [if_neg c]
        exact ⟨by omega, by omega⟩
    have e := lev_step hok hj hx hx' acc.1
    have eA : A (js.take i) 0 (t + 1) = A (js.take i) 0 t + arr (js.take i) t := by
      show A (js.take i) 0 t + arr (js.take i) (0 + t) = _
      rw [Nat.zero_add]
    have x1 : 0 ≤ x' := st_nl (nn_of hok) (t + 1) x' (List.mem_of_getElem? hx')
    have tot : V (js.take i) (t + 1) + x' = A (js.take i) 0 (t + 1) + j.1 - ((t + 1 : Nat) : Int) := by
      rw [eA, Int.natCast_add]
      omega
    refine ⟨?_, tot⟩
    apply Int.not_le.mp
    intro z
    have xz : x' = 0 := by omega
    subst xz
    -- it ran at this tick
    have e1 := comeL_at (t := t) hj hx
    have e2 := runL_at e1
    have e3 : (st js (t + 1))[i]? = some (if whoL (comeL js (st js t) t) = some i then (if (t : Int) % j.2.1 = j.2.2 then x + j.1 else x) - 1 else (if (t : Int) % j.2.1 = j.2.2 then x + j.1 else x)) := e2
    rw [hx'] at e3
    have e4 := Option.some.inj e3
    have acc1 := acc.1
    have who : whoL (comeL js (st js t) t) = some i := by
      by_cases w : whoL (comeL js (st js t) t) = some i
      · exact w
      · rw [if_neg w] at e4
        exfalso
        split at e4 <;> split at acc1 <;> first | omega | contradiction
    have vz : V (js.take i) (t + 1) = 0 := by
      unfold V
      rw [← st_take]
      have a1 : (st js (t + 1)).take i = runL ((comeL js (st js t) t).take i) := run_take _ _
      have nl : Nl ((comeL js (st js t) t).take i) := fun y hy => come_nl (nn_of hok) (st_nl (nn_of hok) t) y (List.mem_of_mem_take hy)
      have a2 := who_zero (come_nl (nn_of hok) (st_nl (nn_of hok) t)) who
      rw [a1, sum_run nl, a2]
      rfl
    have ge := A_ge (js := js.take i) (t + 1) hk fun u hu => h0 u (List.mem_of_mem_take hu)
    exact hu (t + 1) (by omega) (Nat.le_refl _) (by rw [vz] at tot; omega)
/-- no time: something is missed by the end of the first period -/
theorem must_miss (hok : ∀ j, j ∈ js → okJ j) (h0 : ∀ j, j ∈ js → j.2.2 = 0) (hj : js[i]? = some j) (hF : ∀ t : Nat, 1 ≤ t → (t : Int) ≤ j.2.1 → ¬ j.1 + loadS (js.take i) t ≤ t) : ∃ t : Nat, (t : Int) ≤ j.2.1 ∧ ms js t ≠ none := by
  obtain ⟨c1, _, c3, _, c5, c6⟩ := hok j (List.mem_of_getElem? hj)
  have z0 := h0 j (List.mem_of_getElem? hj)
  obtain ⟨p, hp⟩ : ∃ p : Nat, j.2.1 = (p : Int) := ⟨j.2.1.toNat, by omega⟩
  have hi : i < js.length := (List.getElem?_eq_some_iff.mp hj).1
  obtain ⟨x, hx⟩ : ∃ x, (st js p)[i]? = some x := ⟨_, List.getElem?_eq_getElem (by rw [st_len]; exact hi)⟩
  have := (first_pend hok h0 hj p (by omega) (by omega) (fun u h1 h2 => hF u h1 (by omega)) x hx).1
  exact ⟨p, by omega, missL_some hj hx (by rw [hp, z0]; simp) this⟩
end
end Tk

set_option Elab.async false
set_option linter.all false
set_option maxRecDepth 100000
set_option maxHeartbeats 1000000
/-! the rows of times: plain -/
namespace Tk
/-- what the last row is while it grows -/
structure Lo (js : List Job) (i : Nat) (j : Job) (l : Int) : Prop where
  pos : 1 ≤ l
  up : l ≤ j.1 + loadS (js.take i) l
  lb : ∀ t, 1 ≤ t → t ≤ j.2.1 → j.1 + loadS (js.take i) t ≤ t → l ≤ t
section
variable {js : List Job} {i : Nat} {j : Job} {l : Int}
theorem Lo.start (hok : ∀ j, j ∈ js → okJ j) (hj : okJ j) : Lo js i j j.1 :=
  ⟨hj.1, by have := loadS_nonneg (x := j.1) (take_ok (i := i) hok) (by have := hj.1; omega); omega, fun t h1 _ h3 => by have := loadS_nonneg (x := t) (take_ok (i := i) hok) (by omega); omega⟩
theorem Lo.next (hok : ∀ j, j ∈ js → okJ j) (h : Lo js i j l) : Lo js i j (j.1 + loadS (js.take i) l) :=
  ⟨Int.le_trans h.pos h.up, by have := loadS_mono (take_ok (i := i) hok) h.up; omega, fun t h1 h2 h3 => by
    have := loadS_mono (take_ok (i := i) hok) (h.lb t h1 h2 h3)
    omega⟩
end
def rowsF (f : Int → Int) (C p : Int) : Nat → Int → List Int
  | 0, l => [l]
  | n + 1, l => if p < l ∨ C + f l = l then [l] else l :: rowsF f C p n (C + f l)
def lastF (f : Int → Int) (C p : Int) : Nat → Int → Int
  | 0, l => l
  | n + 1, l => if p < l ∨ C + f l = l then l else lastF f C p n (C + f l)
theorem rows_stop {f : Int → Int} {C p : Int} {n : Nat} {l : Int} (h : p < l ∨ C + f l = l) : rowsF f C p n l = [l] := by
  cases n with
  | zero => rfl
  | succ n => unfold rowsF; rw [if_pos h]
theorem rows_go {f : Int → Int} {C p : Int} {n : Nat} {l : Int} (h1 : ¬ p < l) (h2 : ¬ C + f l = l) : rowsF f C p (n + 1) l = l :: rowsF f C p n (C + f l) := by
  show (if p < l ∨ C + f l = l then [l] else _) = _
  rw [if_neg (fun z => z.elim h1 h2)]
theorem rows_last {f : Int → Int} {C p : Int} : ∀ (n : Nat) (l : Int), ∃ pre, rowsF f C p n l = pre ++ [lastF f C p n l]
  | 0, l => ⟨[], rfl⟩
  | n + 1, l => by
    unfold rowsF lastF
    by_cases c : p < l ∨ C + f l = l
    · rw [if_pos c, if_pos c]
      exact ⟨[], rfl⟩
    · rw [if_neg c, if_neg c]
      obtain ⟨pre, e⟩ := rows_last (f := f) (C := C) (p := p) n (C + f l)
      exact ⟨l :: pre, by rw [e]; rfl⟩
def rowsJ (js : List Job) (i : Nat) (j : Job) : List Int := rowsF (loadS (js.take i)) j.1 j.2.1 25 j.1
def Rj (js : List Job) (i : Nat) (j : Job) : Int := lastF (loadS (js.take i)) j.1 j.2.1 25 j.1
theorem rowsJ_last (js : List Job) (i : Nat) (j : Job) : (rowsJ js i j)[(rowsJ js i j).length - 1]? = some (Rj js i j) ∧ rowsJ js i j ≠ [] := by
  obtain ⟨pre, e⟩ := rows_last (f := loadS (js.take i)) (C := j.1) (p := j.2.1) 25 j.1
  unfold rowsJ Rj
  rw [e]
  simp
section
variable {js : List Job} {i : Nat} {j : Job}
theorem last_ok (hok : ∀ j, j ∈ js → okJ j) (hj : okJ j) : ∀ (n : Nat) (l : Int), Lo js i j l → 26 ≤ (n : Int) + l → Lo js i j (lastF (loadS (js.take i)) j.1 j.2.1 n l) ∧ (j.2.1 < lastF (loadS (js.take i)) j.1 j.2.1 n l ∨ j.1 + loadS (js.take i) (lastF (loadS (js.take i)) j.1 j.2.1 n l) = lastF (loadS (js.take i)) j.1 j.2.1 n l)
  | 0, l, h, hn => ⟨h, .inl (by have := hj.2.2.2.1; show j.2.1 < l; omega)⟩
  | n + 1, l, h, hn => by
    unfold lastF
    by_cases c : j.2.1 < l ∨ j.1 + loadS (js.take i) l = l
    · rw [if_pos c]
      exact ⟨h, c⟩
    · rw [if_neg c]
      have := h.up
      exact last_ok hok hj n _ (h.next hok) (by
        have : ¬ j.1 + loadS (js.take i) l = l := fun z => c (.inr z)
        omega)
theorem Rj_ok (hok : ∀ j, j ∈ js → okJ j) (hj : okJ j) : Lo js i j (Rj js i j) ∧ (j.2.1 < Rj js i j ∨ j.1 + loadS (js.take i) (Rj js i j) = Rj js i j) :=
  last_ok hok hj 25 j.1 (.start hok hj) (by have := hj.1; omega)
theorem fix_of (hok : ∀ j, j ∈ js → okJ j) (hj : okJ j) (h : Rj js i j ≤ j.2.1) : Fix js i j (Rj js i j).toNat := by
  obtain ⟨lo, e⟩ := Rj_ok (i := i) hok hj
  have p := lo.pos
  have c : (((Rj js i j).toNat : Nat) : Int) = Rj js i j := Int.toNat_of_nonneg (by omega)
  have e' : j.1 + loadS (js.take i) (Rj js i j) = Rj js i j := e.resolve_left (by omega)
  exact ⟨by omega, by omega, by rw [c]; exact e', fun t h1 h2 h3 => by have := lo.lb t (by omega) h2 h3; omega⟩
theorem nofix (hok : ∀ j, j ∈ js → okJ j) (hj : okJ j) (h : j.2.1 < Rj js i j) : ∀ t : Nat, 1 ≤ t → (t : Int) ≤ j.2.1 → ¬ j.1 + loadS (js.take i) t ≤ t := fun t h1 h2 h3 => by
  have := (Rj_ok (i := i) hok hj).1.lb t (by omega) h2 h3
  omega
end
/-! ### other offsets -/
def sk (js : List Job) : List (Int × Int) := js.map fun j => (j.1, j.2.1)
theorem loadS_sk : ∀ {js js' : List Job}, sk js = sk js' → loadS js = loadS js'
  | [], [], _ => rfl
  | a :: js, b :: js', h => by
    unfold sk at h
    simp only [List.map_cons, List.cons.injEq, Prod.mk.injEq] at h
    have ih := loadS_sk (js := js) (js' := js') h.2
    funext x
    have q := congrFun ih x
    unfold loadS at q ⊢
    rw [List.map_cons, List.map_cons, List.sum_cons, List.sum_cons, q, h.1.1, h.1.2]
  | [], _ :: _, h => by simp [sk] at h
  | _ :: _, [], h => by simp [sk] at h
theorem sk_take {js js' : List Job} (h : sk js = sk js') (i : Nat) : sk (js.take i) = sk (js'.take i) := by
  unfold sk at h ⊢
  rw [List.map_take, List.map_take, h]
theorem Rj_sk {js js' : List Job} {i : Nat} {j j' : Job} (h : sk js = sk js') (h1 : j.1 = j'.1) (h2 : j.2.1 = j'.2.1) : Rj js i j = Rj js' i j' := by
  unfold Rj
  rw [loadS_sk (sk_take h i), h1, h2]
theorem sk_at {js js' : List Job} {i : Nat} {j j' : Job} (h : sk js = sk js') (hj : js[i]? = some j) (hj' : js'[i]? = some j') : j.1 = j'.1 ∧ j.2.1 = j'.2.1 := by
  have e : (sk js)[i]? = (sk js')[i]? := by rw [h]
  unfold sk at e
  rw [List.getElem?_map, List.getElem?_map, hj, hj'] at e
  simpa using e
/-! ### ends told are jobs done -/
theorem td_done {js : List Job} {i : Nat} {j : Job} (hok : ∀ j, j ∈ js → okJ j) (hj : js[i]? = some j) : ∀ t, (∀ u, u < t → ms js u = none) → ∀ v, v ∈ td js i j t → ∃ f, f < t ∧ Done js i j f v
  | 0, _, v, hv => by simp [td] at hv
  | t + 1, hn, v, hv => by
    rw [td_succ] at hv
    by_cases c : whoL (comeL js (st js t) t) = some i ∧ (st js (t + 1))[i]? = some 0
    · rw [if_pos c] at hv
      rcases List.mem_append.mp hv with hv | hv
      · obtain ⟨f, h1, h2⟩ := td_done hok hj t (fun u hu => hn u (by omega)) v hv
        exact ⟨f, by omega, h2⟩
      · have hv' : v = ((t : Int) + 1 - j.2.2) - ((td js i j t).length : Int) * j.2.1 := by simpa using hv
        obtain ⟨c1, _, c3, _, c5, c6⟩ := hok j (List.mem_of_getElem? hj)
        obtain ⟨n, x, hx, x0, hcase, hlen⟩ := inv_at c1 (by omega) c5 c6 hj (t + 1) hn
        have x00 : x = 0 := by
          have q := c.2
          rw [hx] at q
          exact Option.some.inj q
        subst x00
        rw [if_neg (by omega), td_succ, if_pos c, List.length_append] at hlen
        have hl1 : (td js i j t).length + 1 = n := by simpa using hlen
        have hn1 : (n : Int) - 1 = ((td js i j t).length : Int) := by omega
        rw [hn1] at hcase
        have hnl : (n : Int) = ((td js i j t).length : Int) + 1 := by omega
        rw [hnl, Int.add_mul, Int.one_mul, Int.natCast_add] at hcase
        have nn : 0 ≤ ((td js i j t).length : Int) * j.2.1 := Int.mul_nonneg (by omega) (by omega)
        refine ⟨t, by omega, c.1, c.2, j.2.2 + ((td js i j t).length : Int) * j.2.1, by omega, ?_, ?_, ?_, by omega⟩
        · rw [Int.add_mul_emod_self_right]
          exact Int.emod_eq_of_lt c5 c6
        · rcases hcase with q | q
          · omega
          · omega
        · rcases hcase with q | q
          · omega
          · omega
    · rw [if_neg c] at hv
      obtain ⟨f, h1, h2⟩ := td_done hok hj t (fun u hu => hn u (by omega)) v hv
      exact ⟨f, by omega, h2⟩
/-- all at once: a job done takes at least R -/
theorem done_ge {js : List Job} {i : Nat} {j : Job} (hok : ∀ j, j ∈ js → okJ j) (h0 : ∀ j, j ∈ js → j.2.2 = 0) (hj : js[i]? = some j) {R : Nat} (F : Fix js i j R) {f : Nat} (hD : (st js (f + 1))[i]? = some 0) : R ≤ f + 1 := by
  apply Nat.not_lt.mp
  intro z
  have hle := F.le
  have := (first_pend hok h0 hj (f + 1) (by omega) (by omega) (fun u h1 h2 h3 => by have := F.lb u h1 (by omega) h3; omega) 0 hD).1
  omega
/-- a ring of standings: a job done later is one done earlier -/
theorem done_back {js : List Job} {i : Nat} {j : Job} {c s : Nat} (hok : ∀ j, j ∈ js → okJ j) (hj : js[i]? = some j) (hp : Per js c) (hc : 0 < c) (hs : 0 < s) (hr : rep js c s) {E : Nat} (hE : s + c ≤ E) : ∀ (f : Nat) (v : Int), Done js i j f v → ∃ f', f' < E ∧ Done js i j f' v := by
  intro f
  induction f using Nat.strongRecOn with
  | _ f ih =>
    intro v h
    by_cases q : f < E
    · exact ⟨f, q, h⟩
    · obtain ⟨h1, h2, a, b0, b1, b2, b3, b4⟩ := h
      obtain ⟨r1, r2, r3⟩ := hr
      have hsc : c ≤ s := Nat.le_of_dvd r2 (Nat.dvd_of_mod_eq_zero r1)
      have he : st js ((s - c) + c) = st js (s - c) := by rw [Nat.sub_add_cancel hsc]; exact r3.symm
      have e1 := st_per hp he (f - c - (s - c))
      have e2 := st_per hp he (f - c - (s - c) + 1)
      rw [show s - c + (f - c - (s - c)) + c = f by omega, show s - c + (f - c - (s - c)) = f - c by omega] at e1
      rw [show s - c + (f - c - (s - c) + 1) + c = f + 1 by omega, show s - c + (f - c - (s - c) + 1) = f - c + 1 by omega] at e2
      obtain ⟨p0, p1⟩ := hp j (List.mem_of_getElem? hj)
      have hpc : j.2.1 ≤ c := Int.le_of_dvd (by omega) p1
      obtain ⟨k, hk⟩ := p1
      refine ih (f - c) (by omega) v ⟨?_, ?_, a - c, by omega, ?_, by omega, by omega, by omega⟩
      · have e3 : comeL js (st js (f - c)) (f - c) = comeL js (st js f) f := by
          rw [← e1]
          have := come_per (t := f - c) (xs := st js f) hp
          rw [show f - c + c = f by omega] at this
          exact this.symm
        rw [e3]
        exact h1
      · rw [← e2]
        exact h2
      · rw [hk, ← b1]
        have : a - j.2.1 * k = a + j.2.1 * (-k) := by rw [Int.mul_neg]; omega
        rw [this, Int.add_mul_emod_self_left]
end Tk

set_option Elab.async false
set_option linter.all false
set_option maxRecDepth 100000
set_option maxHeartbeats 1000000
/-! the law's ticks with the times of jobs: plain -/
namespace Tk
def cameU : List Job → List Int → Nat → List Int
  | j :: js, a :: as, t => (if (t : Int) % j.2.1 = j.2.2 then (t : Int) else a) :: cameU js as t
  | _, as, _ => as
theorem cameU_nil (as : List Int) (t : Nat) : cameU [] as t = as := by unfold cameU; rfl
theorem cameU_len : ∀ (js : List Job) (as : List Int) (t : Nat), (cameU js as t).length = as.length
  | [], _, _ => by unfold cameU; rfl
  | _ :: _, [], _ => by unfold cameU; rfl
  | j :: js, x :: as, t => by unfold cameU; rw [List.length_cons, cameU_len js as t, List.length_cons]
theorem cameU_at : ∀ {js : List Job} {as : List Int} {t k : Nat} {j : Job} {a : Int}, js[k]? = some j → as[k]? = some a → (cameU js as t)[k]? = some (if (t : Int) % j.2.1 = j.2.2 then (t : Int) else a)
  | [], _, _, _, _, _, h, _ => by simp at h
  | _ :: _, [], _, _, _, _, _, h => by simp at h
  | j0 :: js, x0 :: as, t, 0, j, x, h1, h2 => by
    simp at h1 h2
    subst h1 h2
    unfold cameU
    rfl
  | j0 :: js, x0 :: as, t, k + 1, j, x, h1, h2 => by
    unfold cameU
    rw [List.getElem?_cons_succ] at h1 h2 ⊢
    exact cameU_at h1 h2
theorem cameU_succ : ∀ {js : List Job} {as : List Int} {t k : Nat} {j : Job} {a : Int}, js[k]? = some j → as[k]? = some a → cameU (js.take (k + 1)) as t = if (t : Int) % j.2.1 = j.2.2 then (cameU (js.take k) as t).set k (t : Int) else cameU (js.take k) as t
  | [], _, _, _, _, _, h, _ => by simp at h
  | _ :: _, [], _, _, _, _, _, h => by simp at h
  | j0 :: js, x0 :: as, t, 0, j, x, h1, h2 => by
    simp at h1 h2
    subst h1 h2
    simp only [List.take_succ_cons, List.take_zero, cameU, cameU_nil]
    split <;> rfl
  | j0 :: js, x0 :: as, t, k + 1, j, x, h1, h2 => by
    rw [List.getElem?_cons_succ] at h1 h2
    have e := cameU_succ (t := t) h1 h2
    rw [List.take_succ_cons, List.take_succ_cons]
    simp only [cameU]
    rw [e]
    split <;> split <;> rfl
theorem miss_take : ∀ {js : List Job} {xs : List Int} {t k m : Nat}, missL (js.take k) xs t = some m → missL js xs t = some m
  | [], _, _, _, _, h => by rw [List.take_nil] at h; exact h
  | _ :: _, _, _, 0, _, h => by rw [List.take_zero, missL_nil] at h; cases h
  | _ :: _, [], _, k + 1, _, h => by rw [List.take_succ_cons] at h; unfold missL at h; cases h
  | j :: js, x :: xs, t, k + 1, m, h => by
    rw [List.take_succ_cons] at h
    unfold missL at h ⊢
    by_cases c : (t : Int) % j.2.1 = j.2.2 ∧ 0 < x
    · rw [if_pos c] at h ⊢
      exact h
    · rw [if_neg c] at h ⊢
      cases q : missL (js.take k) xs t with
      | none => rw [q] at h; cases h
      | some m' =>
        rw [q] at h
        rw [miss_take q]
        exact h
/-- when the job that is not done came -/
def CA (js : List Job) (t : Nat) (came : List Int) : Prop := came.length = js.length ∧ ∀ (k : Nat) (j : Job) (x : Int), js[k]? = some j → (st js t)[k]? = some x → 0 < x → ∃ a : Int, came[k]? = some a ∧ 0 ≤ a ∧ a % j.2.1 = j.2.2 ∧ a < t ∧ (t : Int) ≤ a + j.2.1
/-- the longest times so far -/
def LG (js : List Job) (t : Nat) (lg : List Int) : Prop := lg.length = js.length ∧ ∀ (k : Nat) (j : Job), js[k]? = some j → ∃ g, lg[k]? = some g ∧ 0 ≤ g ∧ (∀ (f : Nat) (v : Int), f < t → Done js k j f v → v ≤ g) ∧ (g = 0 ∨ ∃ f, f < t ∧ Done js k j f g)
theorem zs_get {js : List Job} {k : Nat} {j : Job} (hj : js[k]? = some j) : (zs js)[k]? = some 0 := by
  unfold zs
  rw [List.getElem?_map, hj]
  rfl
theorem CA.start (js : List Job) : CA js 0 (zs js) := ⟨by unfold zs; simp, fun k j x hj hx h => by
  have : (zs js)[k]? = some x := hx
  rw [zs_get hj] at this
  cases this
  exact absurd h (by omega)⟩
theorem LG.start (js : List Job) : LG js 0 (zs js) := ⟨by unfold zs; simp, fun k j hj => ⟨0, zs_get hj, Int.le_refl _, fun f v h => absurd h (by omega), .inl rfl⟩⟩
section
variable {js : List Job} {t : Nat} {came lg : List Int}
theorem after_get (hok : ∀ j, j ∈ js → okJ j) {k : Nat} {j : Job} (hj : js[k]? = some j) : ∃ x y, (st js t)[k]? = some x ∧ 0 ≤ x ∧ (comeL js (st js t) t)[k]? = some y ∧ y = (if (t : Int) % j.2.1 = j.2.2 then x + j.1 else x) ∧ (st js (t + 1))[k]? = some (if whoL (comeL js (st js t) t) = some k then y - 1 else y) := by
  have hi : k < js.length := (List.getElem?_eq_some_iff.mp hj).1
  obtain ⟨x, hx⟩ : ∃ x, (st js t)[k]? = some x := ⟨_, List.getElem?_eq_getElem (by rw [st_len]; exact hi)⟩
  have e1 := comeL_at (t := t) hj hx
  exact ⟨x, _, hx, st_nl (nn_of hok) t x (List.mem_of_getElem? hx), e1, rfl, runL_at e1⟩
theorem CA.get (h : CA js t came) {k : Nat} {j : Job} (hj : js[k]? = some j) : ∃ a, came[k]? = some a := by
  have hi : k < js.length := (List.getElem?_eq_some_iff.mp hj).1
  exact ⟨_, List.getElem?_eq_getElem (by rw [h.1]; exact hi)⟩
/-- behind the coming: the job that has something left came at a -/
theorem CA.now (hok : ∀ j, j ∈ js → okJ j) (h : CA js t came) {k : Nat} {j : Job} {y : Int} (hj : js[k]? = some j) (hy : (comeL js (st js t) t)[k]? = some y) (h0 : 0 < y) : ∃ a : Int, (cameU js came t)[k]? = some a ∧ 0 ≤ a ∧ a % j.2.1 = j.2.2 ∧ a ≤ t ∧ (t : Int) < a + j.2.1 := by
  obtain ⟨x, y', hx, x0, hy', ey, _⟩ := after_get (t := t) hok hj
  rw [hy] at hy'
  cases hy'
  obtain ⟨a0, ha0⟩ := h.get hj
  have e := cameU_at (t := t) hj ha0
  obtain ⟨c1, _, c3, _, c5, c6⟩ := hok j (List.mem_of_getElem? hj)
  by_cases c : (t : Int) % j.2.1 = j.2.2
  · rw [if_pos c] at e
    exact ⟨t, e, by omega, c, by omega, by omega⟩
  · rw [if_neg c] at e ey
    obtain ⟨a, q1, q2, q3, q4, q5⟩ := h.2 k j x hj hx (by omega)
    rw [ha0] at q1
    cases q1
    have : (t : Int) ≠ a0 + j.2.1 := fun z => c (by rw [z, Int.add_emod_right]; exact q3)
    exact ⟨a0, e, q2, q3, by omega, by omega⟩
theorem CA.next (hok : ∀ j, j ∈ js → okJ j) (h : CA js t came) : CA js (t + 1) (cameU js came t) := ⟨by rw [cameU_len]; exact h.1, fun k j x' hj hx' h0 => by
  obtain ⟨x, y, hx, x0, hy, ey, hs⟩ := after_get (t := t) hok hj
  rw [hx'] at hs
  have e := Option.some.inj hs
  have y0 : 0 < y := by split at e <;> omega
  obtain ⟨a, q1, q2, q3, q4, q5⟩ := h.now hok hj hy y0
  exact ⟨a, q1, q2, q3, by omega, by omega⟩⟩
theorem LG.none (h : LG js t lg) (hw : whoL (comeL js (st js t) t) = none) : LG js (t + 1) lg := ⟨h.1, fun k j hj => by
  obtain ⟨g, a, b, c, d⟩ := h.2 k j hj
  refine ⟨g, a, b, fun f v hf hd => ?_, d.imp id fun ⟨f, h1, h2⟩ => ⟨f, by omega, h2⟩⟩
  rcases Nat.lt_succ_iff_lt_or_eq.mp hf with q | rfl
  · exact c f v q hd
  · have q := hd.1
    rw [hw] at q
    cases q⟩
theorem LG.not (h : LG js t lg) {m : Nat} (hw : whoL (comeL js (st js t) t) = some m) (hz : (st js (t + 1))[m]? ≠ some 0) : LG js (t + 1) lg := ⟨h.1, fun k j hj => by
  obtain ⟨g, a, b, c, d⟩ := h.2 k j hj
  refine ⟨g, a, b, fun f v hf hd => ?_, d.imp id fun ⟨f, h1, h2⟩ => ⟨f, by omega, h2⟩⟩
  rcases Nat.lt_succ_iff_lt_or_eq.mp hf with q | rfl
  · exact c f v q hd
  · have q := hd.1
    rw [hw] at q
    cases q
    exact absurd hd.2.1 hz⟩
theorem LG.done (hok : ∀ j, j ∈ js → okJ j) (h : LG js t lg) (hc : CA js t came) {m : Nat} (hw : whoL (comeL js (st js t) t) = some m) (hz : (st js (t + 1))[m]? = some 0) {g a : Int} (hg : lg[m]? = some g) (ha : (cameU js came t)[m]? = some a) : LG js (t + 1) (lg.set m (if g < (t : Int) + 1 - a then (t : Int) + 1 - a else g)) := by
  refine ⟨by rw [List.length_set]; exact h.1, fun k j hj => ?_⟩
  by_cases e : m = k
  · subst e
    have hml : m < lg.length := (List.getElem?_eq_some_iff.mp hg).1
    obtain ⟨g', b1, b2, b3, b4⟩ := h.2 m j hj
    rw [hg] at b1
    cases b1
    obtain ⟨y, hy, y0⟩ := who_pos hw
    obtain ⟨a', q1, q2, q3, q4, q5⟩ := hc.now hok hj hy y0
    rw [ha] at q1
    cases q1
    have hp : 0 < j.2.1 := by have := (hok j (List.mem_of_getElem? hj)).2.2.1; omega
    have hd : Done js m j t ((t : Int) + 1 - a) := ⟨hw, hz, a, q2, q3, q4, q5, rfl⟩
    refine ⟨_, List.getElem?_set_self hml, by split <;> omega, fun f v hf hdv => ?_, ?_⟩
    · rcases Nat.lt_succ_iff_lt_or_eq.mp hf with q | rfl
      · have := b3 f v q hdv
        split <;> omega
      · obtain ⟨_, _, a2, r1, r2, r3, r4, rfl⟩ := hdv
        have : a2 = a := same_a (f := (f : Int)) hp r2 q3 r3 r4 q4 q5
        split <;> omega
    · by_cases c : g < (t : Int) + 1 - a
      · rw [if_pos c]
        exact .inr ⟨t, by omega, hd⟩
      · rw [if_neg c]
        exact b4.imp id fun ⟨f, h1, h2⟩ => ⟨f, by omega, h2⟩
  · obtain ⟨g', b1, b2, b3, b4⟩ := h.2 k j hj
    refine ⟨g', by rw [List.getElem?_set_ne e]; exact b1, b2, fun f v hf hdv => ?_, b4.imp id fun ⟨f, h1, h2⟩ => ⟨f, by omega, h2⟩⟩
    rcases Nat.lt_succ_iff_lt_or_eq.mp hf with q | rfl
    · exact b3 f v q hdv
    · have q := hdv.1
      rw [hw] at q
      cases q
      exact absurd rfl e
end
end Tk

set_option Elab.async false
set_option linter.all false
set_option maxRecDepth 100000
set_option maxHeartbeats 4000000
/-! the mirrors of the text's defs -/
namespace Lw
open PySem L2 Gv
def sub_BadNumber (nm : Str) : Option Bool := if nm = "BadNumber" then some true else if nm = "TooMany" then some false else none
def sub_TooMany (nm : Str) : Option Bool := if nm = "BadNumber" then some false else if nm = "TooMany" then some true else none
def m_is_whole (a : PyData) : O Bool Empty Empty :=
.rt ((isA "int" a) && (!(isA "bool" a)))
def f_is_whole (a : PyData) : R Bool := fin (m_is_whole a) fun z => z.elim
def m_whole_in (a : (PyData × Int × Int)) : O Bool Empty Empty :=
O.bind (bindR (f_is_whole a.1) fun r2 =>
if r2 then (bindR (intD a.1) fun t3 =>
.nx (decide (a.2.1 ≤ t3) && decide (t3 ≤ a.2.2))) else (.nx false)) fun (j1 : Bool) =>
.rt j1
def f_whole_in (a : (PyData × Int × Int)) : R Bool := fin (m_whole_in a) fun z => z.elim
def m_check_jobs (a : PyData) : O Unit Empty Unit :=
if (!(isA "list" a || isA "tuple" a)) then (.er ⟨"BadNumber", [("word", (PyData.str ("jobs" : Str)))]⟩) else (bindR (lenD a) fun t1 =>
if (decide ((5 : Int) < t1)) then (.er ⟨"TooMany", [("limit", (PyData.int (5 : Int)))]⟩) else (bindR (itemsD a) fun l2 =>
(forO (fun (s3 : Unit) (b4 : PyData) =>
O.bind (if (!(isA "list" b4 || isA "tuple" b4)) then (.nx true) else (bindR (lenD b4) fun t6 =>
if (!decide (t6 = (3 : Int))) then (.nx true) else (bindR (atD b4 (0 : Int)) fun t7 =>
bindR (f_whole_in (t7, (1 : Int), (12 : Int))) fun r8 =>
.nx (!r8)))) fun (j5 : Bool) =>
if j5 then (.er ⟨"BadNumber", [("word", (PyData.str ("jobs" : Str)))]⟩) else (O.bind (bindR (atD b4 (1 : Int)) fun t10 =>
bindR (f_whole_in (t10, (1 : Int), (24 : Int))) fun r11 =>
if (!r11) then (.nx true) else (bindR (atD b4 (2 : Int)) fun t12 =>
bindR (atD b4 (1 : Int)) fun t13 =>
bindR (intD t13) fun t14 =>
bindR (f_whole_in (t12, (0 : Int), (t14 - (1 : Int)))) fun r15 =>
.nx (!r15))) fun (j9 : Bool) =>
if j9 then (.er ⟨"BadNumber", [("word", (PyData.str ("jobs" : Str)))]⟩) else (.nx ()))) l2 ()).bind fun (s3 : Unit) =>
.nx ()))
def f_check_jobs (a : PyData) : R Unit := fin (m_check_jobs a) .nx
def m_check_job_place (a : (PyData × Int)) : O Unit Empty Unit :=
bindR (lenD a.1) fun t1 =>
bindR (f_whole_in ((PyData.int a.2), (0 : Int), (t1 - (1 : Int)))) fun r2 =>
if (!r2) then (.er ⟨"BadNumber", [("word", (PyData.str ("place" : Str)))]⟩) else (.nx ())
def f_check_job_place (a : (PyData × Int)) : R Unit := fin (m_check_job_place a) .nx
def m_common_period (a : PyData) : O Int Empty Empty :=
lt (1 : Int) fun (common_1 : Int) =>
bindR (itemsD a) fun l2 =>
(forO (fun (s3 : Int) (b4 : PyData) =>
bindR (atD b4 (1 : Int)) fun t5 =>
bindR (intD t5) fun t6 =>
bindR (lcmI s3 t6) fun t7 =>
.nx t7) l2 common_1).bind fun (s3 : Int) =>
.rt s3
def f_common_period (a : PyData) : R Int := fin (m_common_period a) fun z => z.elim
def m_jobs_come (a : (PyData × (List Int) × Int)) : O ((Option Int) × (List Int)) Empty Empty :=
bindR (itemsD a.1) fun l1 =>
(forO (fun (s2 : ((List Int) × (Option Int))) (b3 : (Int × PyData)) =>
bindR (unp3 b3.2) fun q4 =>
bindR (intD q4.1) fun t5 =>
bindR (intD q4.2.1) fun t6 =>
bindR (intD q4.2.2) fun t7 =>
bindR (modR a.2.2 t6) fun t8 =>
if (decide (t8 = t7)) then (O.bind (O.bind (bindR (idx s2.1 b3.1) fun t11 =>
if (decide ((0 : Int) < t11)) then (.nx (s2.2).isNone) else (.nx false)) fun (j10 : Bool) =>
if j10 then (lt (some b3.1) fun (missed_12 : (Option Int)) =>
.nx missed_12) else (.nx s2.2)) fun (s9 : (Option Int)) =>
bindR (idx s2.1 b3.1) fun t13 =>
bindR (setR s2.1 b3.1 (t13 + t5)) fun ys14 =>
.nx (ys14, s9)) else (.nx (s2.1, s2.2))) (enumL l1) (a.2.1, none)).bind fun (s2 : ((List Int) × (Option Int))) =>
.rt (s2.2, s2.1)
def f_jobs_come (a : (PyData × (List Int) × Int)) : R ((Option Int) × (List Int)) := fin (m_jobs_come a) fun z => z.elim
def m_run_one_rung (a : (List Int)) : O (Int × (List Int)) Empty Empty :=
bindR (rngR 0 ((a).length : Int)) fun l1 =>
(forO (fun (s2 : (List Int)) (b3 : Int) =>
bindR (idx s2 b3) fun t4 =>
if (decide ((0 : Int) < t4)) then (bindR (idx s2 b3) fun t5 =>
bindR (setR s2 b3 (t5 - (1 : Int))) fun ys6 =>
.rt (b3, ys6)) else (.nx s2)) l1 a).bind fun (s2 : (List Int)) =>
.rt ((-(1 : Int)), s2)
def f_run_one_rung (a : (List Int)) : R (Int × (List Int)) := fin (m_run_one_rung a) fun z => z.elim
def m_first_miss (a : PyData) : O (Option (Int × Int)) Empty Empty :=
bindR (f_check_jobs a) fun r1 =>
bindR (f_common_period a) fun r2 =>
bindR (itemsD a) fun l3 =>
bindR (lcR (fun (s5 : Unit) (b4 : PyData) =>
.nx ((), some (0 : Int))) l3 () []) fun r6 =>
lt (0 : Int) fun (tick_7 : Int) =>
(whileO (fun (s8 : ((List Int) × (Option (List Int)) × Int)) =>
.nx (s8, true)) (fun (s8 : ((List Int) × (Option (List Int)) × Int)) =>
O.bind (bindR (modR s8.2.2 r2) fun t10 =>
if (decide (t10 = (0 : Int))) then (if (decide ((s8.2.1 : (Option (List Int))) = ((some s8.1) : (Option (List Int))))) then (.rt none) else (lt (some s8.1) fun (seen_11 : (Option (List Int))) =>
.nx seen_11)) else (.nx s8.2.1)) fun (s9 : (Option (List Int))) =>
bindR (f_jobs_come (a, s8.1, s8.2.2)) fun r12 =>
if (!(r12.1).isNone) then (bindR (getR r12.1) fun missed_13 =>
.rt (some (missed_13, s8.2.2))) else (bindR (f_run_one_rung r12.2) fun r14 =>
lt (s8.2.2 + (1 : Int)) fun (tick_15 : Int) =>
.nx (r14.2, s9, tick_15))) 100000 (r6.2, none, tick_7)).bind fun (s8 : ((List Int) × (Option (List Int)) × Int)) =>
.stuck
def f_first_miss (a : PyData) : R (Option (Int × Int)) := fin (m_first_miss a) fun z => z.elim
def m_job_ends (a : (PyData × Int × Int)) : O (List Int) Empty Empty :=
bindR (f_check_jobs a.1) fun r1 =>
bindR (f_check_job_place (a.1, a.2.1)) fun r2 =>
bindR (f_whole_in ((PyData.int a.2.2), (0 : Int), (200 : Int))) fun r3 =>
if (!r3) then (.er ⟨"BadNumber", [("word", (PyData.str ("many" : Str)))]⟩) else (bindR (atD a.1 a.2.1) fun t4 =>
bindR (unp3 t4) fun q5 =>
bindR (intD q5.2.1) fun t6 =>
bindR (intD q5.2.2) fun t7 =>
bindR (itemsD a.1) fun l8 =>
bindR (lcR (fun (s10 : Unit) (b9 : PyData) =>
.nx ((), some (0 : Int))) l8 () []) fun r11 =>
lt ([]) fun (found_12 : (List Int)) =>
lt (0 : Int) fun (tick_13 : Int) =>
(whileO (fun (s14 : ((List Int) × (List Int) × Int)) =>
.nx (s14, (decide (((s14.2.1).length : Int) < a.2.2)))) (fun (s14 : ((List Int) × (List Int) × Int)) =>
bindR (f_jobs_come (a.1, s14.1, s14.2.2)) fun r15 =>
if (!(r15.1).isNone) then (.rt s14.2.1) else (bindR (f_run_one_rung r15.2) fun r16 =>
lt (s14.2.2 + (1 : Int)) fun (tick_17 : Int) =>
O.bind (if (decide (r16.1 = a.2.1)) then (bindR (idx r16.2 a.2.1) fun t19 =>
.nx (decide (t19 = (0 : Int)))) else (.nx false)) fun (j18 : Bool) =>
if j18 then (bindR (mulR ((s14.2.1).length : Int) t6) fun t20 =>
bindR (appR s14.2.1 ((tick_17 - t7) - t20)) fun ys21 =>
.nx (r16.2, ys21, tick_17)) else (.nx (r16.2, s14.2.1, tick_17)))) 100000 (r11.2, found_12, tick_13)).bind fun (s14 : ((List Int) × (List Int) × Int)) =>
.rt s14.2.1)
def f_job_ends (a : (PyData × Int × Int)) : R (List Int) := fin (m_job_ends a) fun z => z.elim
def m_rows_of_response (a : (PyData × Int)) : O (List Int) Empty Empty :=
bindR (f_check_jobs a.1) fun r1 =>
bindR (f_check_job_place (a.1, a.2)) fun r2 =>
bindR (atD a.1 a.2) fun t3 =>
bindR (unp3 t3) fun q4 =>
bindR (intD q4.1) fun t5 =>
bindR (intD q4.2.1) fun t6 =>
lt ([t5]) fun (found_7 : (List Int)) =>
(whileO (fun (s8 : (List Int)) =>
bindR (idx s8 (-(1 : Int))) fun t9 =>
.nx (s8, (decide (t9 ≤ t6)))) (fun (s8 : (List Int)) =>
bindR (cutD a.1 none (some a.2)) fun t10 =>
bindR (itemsD t10) fun l11 =>
bindR (lcR (fun (s13 : Unit) (b12 : PyData) =>
bindR (atD b12 (0 : Int)) fun t15 =>
bindR (idx s8 (-(1 : Int))) fun t16 =>
bindR (atD b12 (1 : Int)) fun t17 =>
bindR (intD t17) fun t18 =>
bindR (divR (-t16) t18) fun t19 =>
bindR (intD t15) fun t20 =>
bindR (mulR t20 (-t19)) fun t21 =>
.nx ((), some t21)) l11 () []) fun r14 =>
lt (t5 + (r14.2).sum) fun (total_22 : Int) =>
bindR (idx s8 (-(1 : Int))) fun t23 =>
if (decide (total_22 = t23)) then (.rt s8) else (bindR (appR s8 total_22) fun ys24 =>
.nx ys24)) 100000 found_7).bind fun (s8 : (List Int)) =>
.rt s8
def f_rows_of_response (a : (PyData × Int)) : R (List Int) := fin (m_rows_of_response a) fun z => z.elim
def m_response (a : (PyData × Int)) : O (Option Int) Empty Empty :=
bindR (f_rows_of_response (a.1, a.2)) fun r1 =>
bindR (idx r1 (-(1 : Int))) fun t2 =>
O.bind (bindR (atD a.1 a.2) fun t4 =>
bindR (atD t4 (1 : Int)) fun t5 =>
bindR (intD t5) fun t6 =>
if (decide (t2 ≤ t6)) then (.nx (some t2)) else (.nx none)) fun (j3 : (Option Int)) =>
.rt j3
def f_response (a : (PyData × Int)) : R (Option Int) := fin (m_response a) fun z => z.elim
def m_never_misses (a : PyData) : O Bool Empty Empty :=
bindR (f_check_jobs a) fun r1 =>
bindR (lenD a) fun t2 =>
bindR (rngR 0 t2) fun l3 =>
bindR (lcR (fun (s5 : Unit) (b4 : Int) =>
bindR (f_response (a, b4)) fun r7 =>
.nx ((), some (!(r7).isNone))) l3 () []) fun r6 =>
.rt ((r6.2).all id)
def f_never_misses (a : PyData) : R Bool := fin (m_never_misses a) fun z => z.elim
def m_law_numbers (a : (List Int)) : O (List Int) Empty Empty :=
lt ([]) fun (numbers_1 : (List Int)) =>
bindR (rngR 0 (minI ((a).length : Int) (63 : Int))) fun l2 =>
(forO (fun (s3 : (List Int)) (b4 : Int) =>
bindR (idx a b4) fun t5 =>
lt (0 : Int) fun (turned_6 : Int) =>
O.bind (if (decide (t5 < (0 : Int))) then (lt ((0 : Int) - t5) fun (cell_8 : Int) =>
lt (1 : Int) fun (turned_9 : Int) =>
.nx (cell_8, turned_9)) else (.nx (t5, turned_6))) fun (s7 : (Int × Int)) =>
if (decide (((10 : Int) ^ ((18 : Int)).toNat) ≤ s7.1)) then (bindR (rngR 0 (45 : Int)) fun l10 =>
(forO (fun (s11 : ((List Int) × Int)) (b12 : Int) =>
if (decide ((0 : Int) < s11.2)) then (bindR (appR s11.1 (s11.2 % (60 : Int))) fun ys13 =>
lt (s11.2 / (60 : Int)) fun (cell_14 : Int) =>
.nx (ys13, cell_14)) else (.nx (s11.1, s11.2))) l10 (s3, s7.1)).bind fun (s11 : ((List Int) × Int)) =>
.nx s11.1) else (lt (((((s7.1 * (16807 : Int)) + (b4 * (7919 : Int))) + (s7.2 * (104729 : Int))) + (11 : Int)) % (2147483629 : Int)) fun (seed_15 : Int) =>
bindR (rngR 0 (7 : Int)) fun l16 =>
(forO (fun (s17 : ((List Int) × Int)) (b18 : Int) =>
bindR (mulR (s17.2 / (1000 : Int)) b18) fun t19 =>
lt ((((s17.2 * (39373 : Int)) + t19) + (7919 : Int)) % (2147483629 : Int)) fun (seed_20 : Int) =>
bindR (appR s17.1 ((seed_20 / (7 : Int)) % (55440 : Int))) fun ys21 =>
.nx (ys21, seed_20)) l16 (s3, seed_15)).bind fun (s17 : ((List Int) × Int)) =>
.nx s17.1)) l2 numbers_1).bind fun (s3 : (List Int)) =>
lt (List.reverse s3) fun (ys22 : (List Int)) =>
.rt ys22
def f_law_numbers (a : (List Int)) : R (List Int) := fin (m_law_numbers a) fun z => z.elim
def m_law_draw (a : ((List Int) × Int)) : O (Int × (List Int)) Empty Empty :=
if (decide (((a.1).length : Int) = (0 : Int))) then (.rt ((0 : Int), a.1)) else (bindR (popR a.1) fun t1 =>
bindR (modR t1.1 a.2) fun t2 =>
.rt (t2, t1.2))
def f_law_draw (a : ((List Int) × Int)) : R (Int × (List Int)) := fin (m_law_draw a) fun z => z.elim
def m_law_int (a : PyData) : O Bool Empty Empty :=
.rt ((isA "int" a) && (!(isA "bool" a)))
def f_law_int (a : PyData) : R Bool := fin (m_law_int a) fun z => z.elim
def m_law_responses (a : ((List (Int × Int × Int)) × Int)) : O (List Int) Empty Empty :=
bindR (idx a.1 a.2) fun t1 =>
lt ([t1.1]) fun (row_2 : (List Int)) =>
bindR (rngR 0 (200 : Int)) fun l3 =>
(forO (fun (s4 : (List Int)) (b5 : Int) =>
bindR (idx s4 (((s4).length : Int) - (1 : Int))) fun t6 =>
bindR (idx a.1 a.2) fun t7 =>
if (decide (t7.2.1 < t6)) then (.rt s4) else (bindR (idx a.1 a.2) fun t8 =>
bindR (rngR 0 a.2) fun l9 =>
(forO (fun (s10 : Int) (b11 : Int) =>
bindR (idx a.1 b11) fun t12 =>
bindR (idx a.1 b11) fun t13 =>
bindR (idx a.1 b11) fun t14 =>
bindR (divR ((t6 + t13.2.1) - (1 : Int)) t14.2.1) fun t15 =>
bindR (mulR t12.1 t15) fun t16 =>
lt (s10 + t16) fun (total_17 : Int) =>
.nx total_17) l9 t8.1).bind fun (s10 : Int) =>
if (decide (s10 = t6)) then (.rt s4) else (bindR (appR s4 s10) fun ys18 =>
.nx ys18))) l3 row_2).bind fun (s4 : (List Int)) =>
.rt s4
def f_law_responses (a : ((List (Int × Int × Int)) × Int)) : R (List Int) := fin (m_law_responses a) fun z => z.elim
def m_law_common (a : (List (Int × Int × Int))) : O Int Empty Empty :=
bindR (rngR (1 : Int) (31 : Int)) fun l1 =>
(forO (fun (s2 : Unit) (b3 : Int) =>
bindR (lcR (fun (s5 : Unit) (b4 : (Int × Int × Int)) =>
bindR (modR b3 b4.2.1) fun t7 =>
if (!decide (t7 = (0 : Int))) then (.nx ((), some b4)) else (.nx ((), none))) a () []) fun r6 =>
if (decide (((r6.2).length : Int) = (0 : Int))) then (.rt b3) else (.nx ())) l1 ()).bind fun (s2 : Unit) =>
.rt (60 : Int)
def f_law_common (a : (List (Int × Int × Int))) : R Int := fin (m_law_common a) fun z => z.elim
def m_law_times (a : (List (Int × Int × Int))) : O PyData Empty Empty :=
bindR (lcR (fun (s2 : Unit) (b1 : (Int × Int × Int)) =>
.nx ((), some (0 : Int))) a () []) fun r3 =>
bindR (lcR (fun (s5 : Unit) (b4 : (Int × Int × Int)) =>
.nx ((), some (0 : Int))) a () []) fun r6 =>
bindR (lcR (fun (s8 : Unit) (b7 : (Int × Int × Int)) =>
.nx ((), some (0 : Int))) a () []) fun r9 =>
bindR (f_law_common a) fun r10 =>
lt ([(-(1 : Int))]) fun (kept_11 : (List Int)) =>
lt (-(1 : Int)) fun (still_12 : Int) =>
bindR (rngR 0 (400 : Int)) fun l13 =>
(forO (fun (s14 : ((List Int) × (List Int) × (List Int) × (List Int) × Int)) (b15 : Int) =>
O.bind (bindR (modR b15 r10) fun t17 =>
if (decide (t17 = (0 : Int))) then (if (decide ((0 : Int) ≤ s14.2.2.2.2)) then (.rt ((dL (dO (dL PyData.int))) ([none, (some s14.2.2.1)]))) else (O.bind (if (decide (s14.2.2.2.1 = s14.1)) then (.nx b15) else (.nx s14.2.2.2.2)) fun (s18 : Int) =>
.nx (s14.1, s18))) else (.nx (s14.2.2.2.1, s14.2.2.2.2))) fun (s16 : ((List Int) × Int)) =>
bindR (rngR 0 ((a).length : Int)) fun l19 =>
(forO (fun (s20 : ((List Int) × (List Int))) (b21 : Int) =>
bindR (idx a b21) fun t22 =>
bindR (modR b15 t22.2.1) fun t23 =>
bindR (idx a b21) fun t24 =>
if (decide (t23 = t24.2.2)) then (bindR (idx s20.1 b21) fun t25 =>
if (decide ((0 : Int) < t25)) then (.rt ((dL id) ([((dP2 PyData.int PyData.int) (b21, b15)), ((dL PyData.int) s14.2.2.1)]))) else (bindR (idx a b21) fun t26 =>
bindR (setR s20.1 b21 t26.1) fun ys27 =>
bindR (setR s20.2 b21 b15) fun ys28 =>
.nx (ys27, ys28))) else (.nx (s20.1, s20.2))) l19 (s14.1, s14.2.1)).bind fun (s20 : ((List Int) × (List Int))) =>
bindR (rngR 0 ((a).length : Int)) fun l29 =>
(forO (fun (s30 : ((List Int) × (List Int) × Bool)) (b31 : Int) =>
O.bind (bindR (idx s30.1 b31) fun t33 =>
if (decide ((0 : Int) < t33)) then (.nx (!s30.2.2)) else (.nx false)) fun (j32 : Bool) =>
if j32 then (bindR (idx s30.1 b31) fun t34 =>
bindR (setR s30.1 b31 (t34 - (1 : Int))) fun ys35 =>
bindR (idx ys35 b31) fun t36 =>
if (decide (t36 = (0 : Int))) then (bindR (idx s30.2.1 b31) fun t37 =>
bindR (idx s20.2 b31) fun t38 =>
bindR (setR s30.2.1 b31 (maxI t37 ((b15 + (1 : Int)) - t38))) fun ys39 =>
.nx (ys35, ys39, true)) else (.nx (ys35, s30.2.1, true))) else (.nx (s30.1, s30.2.1, s30.2.2))) l29 (s20.1, s14.2.2.1, false)).bind fun (s30 : ((List Int) × (List Int) × Bool)) =>
.nx (s30.1, s20.2, s30.2.1, s16.1, s16.2)) l13 (r3.2, r6.2, r9.2, kept_11, still_12)).bind fun (s14 : ((List Int) × (List Int) × (List Int) × (List Int) × Int)) =>
.rt ((dL (dO (dL PyData.int))) ([none, (some s14.2.2.1)]))
def f_law_times (a : (List (Int × Int × Int))) : R PyData := fin (m_law_times a) fun z => z.elim
def m_law_offsets (a : (List (Int × Int × Int))) : O (List (List Int)) Empty Empty :=
lt ([[]]) fun (choices_1 : (List (List Int))) =>
(forO (fun (s2 : (List (List Int))) (b3 : (Int × Int × Int)) =>
lt ([]) fun (longer_4 : (List (List Int))) =>
(forO (fun (s5 : (List (List Int))) (b6 : (List Int)) =>
bindR (rngR 0 b3.2.1) fun l7 =>
(forO (fun (s8 : (List (List Int))) (b9 : Int) =>
bindR (catR b6 ([b9])) fun t10 =>
bindR (appR s8 t10) fun ys11 =>
.nx ys11) l7 s5).bind fun (s8 : (List (List Int))) =>
.nx s8) s2 longer_4).bind fun (s5 : (List (List Int))) =>
.nx s5) a choices_1).bind fun (s2 : (List (List Int))) =>
.rt s2
def f_law_offsets (a : (List (Int × Int × Int))) : R (List (List Int)) := fin (m_law_offsets a) fun z => z.elim
def m_law_at (a : ((List (Int × Int × Int)) × (List Int))) : O (List (Int × Int × Int)) Empty Empty :=
bindR (rngR 0 ((a.1).length : Int)) fun l1 =>
bindR (lcR (fun (s3 : Unit) (b2 : Int) =>
bindR (idx a.1 b2) fun t5 =>
bindR (idx a.1 b2) fun t6 =>
bindR (idx a.2 b2) fun t7 =>
.nx ((), some (t5.1, t6.2.1, t7))) l1 () []) fun r4 =>
.rt r4.2
def f_law_at (a : ((List (Int × Int × Int)) × (List Int))) : R (List (Int × Int × Int)) := fin (m_law_at a) fun z => z.elim
def m_law_rows_fit (a : (List (Int × Int × Int))) : O Bool Empty Empty :=
bindR (rngR 0 ((a).length : Int)) fun l1 =>
(forO (fun (s2 : Bool) (b3 : Int) =>
bindR (f_law_responses (a, b3)) fun r4 =>
bindR (f_rows_of_response (((dT (dP3 PyData.int PyData.int PyData.int)) a), b3)) fun r5 =>
if ((!(isA "tuple" ((dT PyData.int) r5))) || (!decide (r5 = r4))) then (.rt false) else ((forO (fun (s6 : Unit) (b7 : Int) =>
bindR (f_law_int (PyData.int b7)) fun r8 =>
if (!r8) then (.rt false) else (.nx ())) r5 ()).bind fun (s6 : Unit) =>
bindR (idx r4 (((r4).length : Int) - (1 : Int))) fun t9 =>
bindR (f_response (((dT (dP3 PyData.int PyData.int PyData.int)) a), b3)) fun r10 =>
bindR (idx a b3) fun t11 =>
if (decide (t11.2.1 < t9)) then (if (!(r10).isNone) then (.rt false) else (.nx false)) else (O.bind (bindR (f_law_int ((dO PyData.int) r10)) fun r13 =>
if (!r13) then (.nx true) else (.nx (!decide ((r10 : (Option Int)) = ((some t9) : (Option Int)))))) fun (j12 : Bool) =>
if j12 then (.rt false) else (.nx s2)))) l1 true).bind fun (s2 : Bool) =>
bindR (f_never_misses ((dT (dP3 PyData.int PyData.int PyData.int)) a)) fun r14 =>
.rt ((isA "bool" (PyData.bool r14)) && (decide (r14 = s2)))
def f_law_rows_fit (a : (List (Int × Int × Int))) : R Bool := fin (m_law_rows_fit a) fun z => z.elim
def m_law_refused (a : (Int × PyData)) : O Str Empty Empty :=
lt ("" : Str) fun (told_1 : Str) =>
O.bind (tryO (if (decide (a.1 = (0 : Int))) then (bindR (f_response (a.2, (9 : Int))) fun r4 =>
.nx told_1) else (if (decide (a.1 = (1 : Int))) then (bindR (f_rows_of_response (a.2, (-(1 : Int)))) fun r5 =>
.nx told_1) else (bindR (f_never_misses a.2) fun r6 =>
.nx told_1))) (clO sub_BadNumber (fun x2 => bindR (fldR x2 "BadNumber" "word") fun t7 =>
bindR (strD t7) fun t8 =>
.nx t8) (clO sub_TooMany (fun x2 => bindR (fldR x2 "TooMany" "limit") fun t9 =>
bindR (intD t9) fun t11 =>
bindR (strR t11) fun t10 =>
.nx t10) (fun x => .er x)))) fun (s3 : Str) =>
.rt s3
def f_law_refused (a : (Int × PyData)) : R Str := fin (m_law_refused a) fun z => z.elim
def m_law_refusals_fit (a : ((List Int) × (List (Int × Int × Int)))) : O (Bool × (List Int)) Empty Empty :=
bindR (f_law_draw (a.1, ((a.2).length : Int))) fun r1 =>
bindR (rngR 0 (3 : Int)) fun l2 =>
(forO (fun (s3 : Unit) (b4 : Int) =>
(forO (fun (s5 : Unit) (b6 : PyData) =>
bindR (catR (List.map (dP3 PyData.int PyData.int PyData.int) (cutL a.2 none (some r1.1))) ([b6])) fun t7 =>
bindR (catR t7 (List.map (dP3 PyData.int PyData.int PyData.int) (cutL a.2 (some (r1.1 + (1 : Int))) none))) fun t8 =>
bindR (f_law_refused (b4, ((dT id) t8))) fun r9 =>
if (!decide (r9 = ("jobs" : Str))) then (.rt (false, r1.2)) else (.nx ())) ([((dP3 PyData.int PyData.int PyData.int) ((0 : Int), (4 : Int), (0 : Int))), ((dP3 PyData.int PyData.int PyData.int) ((13 : Int), (24 : Int), (0 : Int))), ((dP3 PyData.int PyData.int PyData.int) ((1 : Int), (25 : Int), (0 : Int))), ((dP3 PyData.int PyData.int PyData.int) ((1 : Int), (0 : Int), (0 : Int))), ((dP3 PyData.int PyData.int PyData.int) ((1 : Int), (4 : Int), (4 : Int))), ((dP3 PyData.int PyData.int PyData.int) ((1 : Int), (4 : Int), (-(1 : Int)))), ((dP2 PyData.int PyData.int) ((1 : Int), (4 : Int))), (PyData.int (3 : Int))]) ()).bind fun (s5 : Unit) =>
O.bind (bindR (repR ([((1 : Int), (6 : Int), (0 : Int))]) (6 : Int)) fun t11 =>
bindR (f_law_refused (b4, ((dT (dP3 PyData.int PyData.int PyData.int)) t11))) fun r12 =>
if (!decide (r12 = ("5" : Str))) then (.nx true) else (bindR (f_law_refused (b4, (PyData.int (7 : Int)))) fun r13 =>
.nx (!decide (r13 = ("jobs" : Str))))) fun (j10 : Bool) =>
if j10 then (.rt (false, r1.2)) else (.nx ())) l2 ()).bind fun (s3 : Unit) =>
bindR (rngR 0 (3 : Int)) fun l14 =>
bindR (lcR (fun (s16 : Unit) (b15 : Int) =>
bindR (f_law_refused (b15, ((dT (dP3 PyData.int PyData.int PyData.int)) a.2))) fun r18 =>
.nx ((), some r18)) l14 () []) fun r17 =>
bindR (eqR ((dL PyData.str) r17.2) ((dL PyData.str) ([("place" : Str), ("place" : Str), ("" : Str)]))) fun t19 =>
.rt (t19, r1.2)
def f_law_refusals_fit (a : ((List Int) × (List (Int × Int × Int)))) : R (Bool × (List Int)) := fin (m_law_refusals_fit a) fun z => z.elim
def m_law_drawn_fits (a : ((List (Int × Int × Int)) × (List Int))) : O Bool Empty Empty :=
bindR (f_law_at (a.1, a.2)) fun r1 =>
bindR (f_law_times r1) fun r2 =>
bindR (f_first_miss ((dT (dP3 PyData.int PyData.int PyData.int)) r1)) fun r3 =>
bindR (atD r2 (0 : Int)) fun t4 =>
bindR (eqR ((dO (dP2 PyData.int PyData.int)) r3) t4) fun t5 =>
if (!t5) then (.rt false) else (bindR (atD r2 (0 : Int)) fun t6 =>
if (!isNo t6) then (.rt true) else (bindR (rngR 0 ((a.1).length : Int)) fun l7 =>
(forO (fun (s8 : Unit) (b9 : Int) =>
bindR (f_job_ends (((dT (dP3 PyData.int PyData.int PyData.int)) r1), b9, (3 : Int))) fun r10 =>
O.bind (if (!(isA "tuple" ((dT PyData.int) r10))) then (.nx true) else (if (!decide (((r10).length : Int) = (3 : Int))) then (.nx true) else (bindR (maxR r10) fun t12 =>
bindR (atD r2 (1 : Int)) fun t13 =>
bindR (atD t13 b9) fun t14 =>
bindR (intD t14) fun t15 =>
.nx (decide (t15 < t12))))) fun (j11 : Bool) =>
if j11 then (.rt false) else (.nx ())) l7 ()).bind fun (s8 : Unit) =>
.rt true))
def f_law_drawn_fits (a : ((List (Int × Int × Int)) × (List Int))) : R Bool := fin (m_law_drawn_fits a) fun z => z.elim
def m_law (a : (List Int)) : O Bool Empty Empty :=
bindR (f_law_numbers a) fun r1 =>
bindR (f_law_draw (r1, (8 : Int))) fun r2 =>
if (decide (r2.1 = (7 : Int))) then (bindR (f_law_draw (r2.2, (2 : Int))) fun r3 =>
bindR (idx ([(1 : Int), (12 : Int)]) r3.1) fun t4 =>
bindR (f_law_draw (r3.2, (12 : Int))) fun r5 =>
lt ([((t4, (24 : Int), (0 : Int)), ((1 : Int), (24 : Int), (3 : Int)), ((1 : Int), (24 : Int), (0 : Int)), ((1 : Int), (24 : Int), (23 : Int)), (((1 : Int) + r5.1), (24 : Int), (0 : Int))).1, ((t4, (24 : Int), (0 : Int)), ((1 : Int), (24 : Int), (3 : Int)), ((1 : Int), (24 : Int), (0 : Int)), ((1 : Int), (24 : Int), (23 : Int)), (((1 : Int) + r5.1), (24 : Int), (0 : Int))).2.1, ((t4, (24 : Int), (0 : Int)), ((1 : Int), (24 : Int), (3 : Int)), ((1 : Int), (24 : Int), (0 : Int)), ((1 : Int), (24 : Int), (23 : Int)), (((1 : Int) + r5.1), (24 : Int), (0 : Int))).2.2.1, ((t4, (24 : Int), (0 : Int)), ((1 : Int), (24 : Int), (3 : Int)), ((1 : Int), (24 : Int), (0 : Int)), ((1 : Int), (24 : Int), (23 : Int)), (((1 : Int) + r5.1), (24 : Int), (0 : Int))).2.2.2.1, ((t4, (24 : Int), (0 : Int)), ((1 : Int), (24 : Int), (3 : Int)), ((1 : Int), (24 : Int), (0 : Int)), ((1 : Int), (24 : Int), (23 : Int)), (((1 : Int) + r5.1), (24 : Int), (0 : Int))).2.2.2.2]) fun (jobs_6 : (List (Int × Int × Int))) =>
bindR (f_never_misses ((dT (dP3 PyData.int PyData.int PyData.int)) jobs_6)) fun r7 =>
bindR (idx jobs_6 (4 : Int)) fun t8 =>
if (!decide (r7 = (decide (((t4 + (3 : Int)) + t8.1) ≤ (24 : Int))))) then (.rt false) else (O.bind (bindR (f_law_rows_fit jobs_6) fun r10 =>
if r10 then (bindR (f_law_refusals_fit (r5.2, jobs_6)) fun r11 =>
.nx (r11.1, r11.2)) else (.nx (false, r5.2))) fun (j9 : (Bool × (List Int))) =>
.rt j9.1)) else (lt ([]) fun (jobs_12 : (List (Int × Int × Int))) =>
bindR (idx ([(2 : Int), (3 : Int), (2 : Int), (3 : Int), (2 : Int), (3 : Int), (3 : Int)]) r2.1) fun t13 =>
bindR (rngR 0 t13) fun l14 =>
(forO (fun (s15 : ((List Int) × (List (Int × Int × Int)))) (b16 : Int) =>
bindR (f_law_draw (s15.1, (12 : Int))) fun r17 =>
bindR (idx ([(6 : Int), (4 : Int)]) (t13 - (2 : Int))) fun t18 =>
bindR (modR r17.1 t18) fun t19 =>
lt ((1 : Int) + t19) fun (period_20 : Int) =>
bindR (f_law_draw (r17.2, (12 : Int))) fun r21 =>
bindR (modR r21.1 (minI (3 : Int) period_20)) fun t22 =>
bindR (appR s15.2 (((1 : Int) + t22), period_20, (0 : Int))) fun ys23 =>
.nx (r21.2, ys23)) l14 (r2.2, jobs_12)).bind fun (s15 : ((List Int) × (List (Int × Int × Int)))) =>
bindR (lcR (fun (s25 : (List Int)) (b24 : (Int × Int × Int)) =>
bindR (f_law_draw (s25, b24.2.1)) fun r27 =>
.nx (r27.2, some r27.1)) s15.2 s15.1 []) fun r26 =>
O.bind (bindR (f_law_rows_fit s15.2) fun r29 =>
if (!r29) then (.nx (true, r26.1)) else (bindR (f_law_at (s15.2, r26.2)) fun r30 =>
bindR (f_law_rows_fit r30) fun r31 =>
if (!r31) then (.nx (true, r26.1)) else (bindR (f_law_refusals_fit (r26.1, s15.2)) fun r32 =>
.nx ((!r32.1), r32.2)))) fun (j28 : (Bool × (List Int))) =>
if j28.1 then (.rt false) else (bindR (lcR (fun (s34 : Unit) (b33 : (Int × Int × Int)) =>
.nx ((), some (0 : Int))) s15.2 () []) fun r35 =>
bindR (f_law_offsets s15.2) fun r36 =>
(forO (fun (s37 : (Bool × (List Int))) (b38 : (List Int)) =>
bindR (f_law_at (s15.2, b38)) fun r39 =>
bindR (f_law_times r39) fun r40 =>
O.bind (bindR (atD r40 (0 : Int)) fun t42 =>
if (!isNo t42) then (.nx true) else (.nx s37.1)) fun (s41 : Bool) =>
bindR (rngR 0 t13) fun l43 =>
(forO (fun (s44 : (List Int)) (b45 : Int) =>
bindR (idx s44 b45) fun t46 =>
bindR (atD r40 (1 : Int)) fun t47 =>
bindR (atD t47 b45) fun t48 =>
bindR (intD t48) fun t49 =>
bindR (setR s44 b45 (maxI t46 t49)) fun ys50 =>
.nx ys50) l43 s37.2).bind fun (s44 : (List Int)) =>
.nx (s41, s44)) r36 (false, r35.2)).bind fun (s37 : (Bool × (List Int))) =>
bindR (f_never_misses ((dT (dP3 PyData.int PyData.int PyData.int)) s15.2)) fun r51 =>
if (decide (r51 = s37.1)) then (.rt false) else (O.bind (if (!s37.1) then (bindR (rngR 0 t13) fun l53 =>
(forO (fun (s54 : Unit) (b55 : Int) =>
O.bind (bindR (f_response (((dT (dP3 PyData.int PyData.int PyData.int)) s15.2), b55)) fun r57 =>
bindR (idx s37.2 b55) fun t58 =>
if (!decide ((r57 : (Option Int)) = ((some t58) : (Option Int)))) then (.nx true) else (bindR (f_job_ends (((dT (dP3 PyData.int PyData.int PyData.int)) s15.2), b55, (1 : Int))) fun r59 =>
bindR (idx s37.2 b55) fun t60 =>
.nx (!decide (r59 = [t60])))) fun (j56 : Bool) =>
if j56 then (.rt false) else (.nx ())) l53 ()).bind fun (s54 : Unit) =>
.nx ()) else (.nx ())) fun (s52 : Unit) =>
bindR (f_law_drawn_fits (s15.2, r26.2)) fun r61 =>
.rt r61)))
def f_law (a : (List Int)) : R Bool := fin (m_law a) fun z => z.elim
end Lw

set_option Elab.async false
set_option linter.all false
set_option maxRecDepth 100000
set_option maxHeartbeats 1000000
/-! k76: the plain law -/
namespace Lw
open PySem L2 Gv Tk
def JD (d : PyData) (j : Job) : Prop := d = .tuple [.int j.1, .int j.2.1, .int j.2.2] ∨ d = .list [.int j.1, .int j.2.1, .int j.2.2]
/-- d is a list or tuple of these jobs, each a list or tuple -/
structure JsD (d : PyData) (ds : List PyData) (js : List Job) : Prop where
  is : d = .tuple ds ∨ d = .list ds
  len : ds.length = js.length
  at_ : ∀ (i : Nat) (x : PyData), ds[i]? = some x → ∃ j, js[i]? = some j ∧ JD x j
theorem whole_in (x lo hi : Int) : f_whole_in (.int x, lo, hi) = .nx (decide (lo ≤ x) && decide (x ≤ hi)) := rfl
theorem whole_in_ok {x lo hi : Int} (h : lo ≤ x ∧ x ≤ hi) : f_whole_in (.int x, lo, hi) = .nx true := by
  rw [whole_in, decide_eq_true h.1, decide_eq_true h.2]; rfl
theorem JsD.items {d : PyData} {ds : List PyData} {js : List Job} (h : JsD d ds js) : itemsD d = .nx ds := by
  rcases h.is with rfl | rfl <;> rfl
theorem JsD.lenD {d : PyData} {ds : List PyData} {js : List Job} (h : JsD d ds js) : Gv.lenD d = .nx (js.length : Int) := by
  rw [← h.len]
  rcases h.is with rfl | rfl <;> rfl
theorem JsD.seq {d : PyData} {ds : List PyData} {js : List Job} (h : JsD d ds js) : (!(isA "list" d || isA "tuple" d)) = false := by
  rcases h.is with rfl | rfl <;> rfl
theorem JD.seq {d : PyData} {j : Job} (h : JD d j) : (!(isA "list" d || isA "tuple" d)) = false := by
  rcases h with rfl | rfl <;> rfl
theorem JD.len {d : PyData} {j : Job} (h : JD d j) : lenD d = .nx 3 := by
  rcases h with rfl | rfl <;> rfl
theorem JD.a0 {d : PyData} {j : Job} (h : JD d j) : atD d 0 = .nx (.int j.1) := by
  rcases h with rfl | rfl <;> rfl
theorem JD.a1 {d : PyData} {j : Job} (h : JD d j) : atD d 1 = .nx (.int j.2.1) := by
  rcases h with rfl | rfl <;> rfl
theorem JD.a2 {d : PyData} {j : Job} (h : JD d j) : atD d 2 = .nx (.int j.2.2) := by
  rcases h with rfl | rfl <;> rfl
theorem JD.unp {d : PyData} {j : Job} (h : JD d j) : unp3 d = .nx (.int j.1, .int j.2.1, .int j.2.2) := by
  rcases h with rfl | rfl <;> rfl
theorem intD_int (i : Int) : intD (.int i) = .nx i := rfl
section
variable {d : PyData} {ds : List PyData} {js : List Job}
/-- the check of one job -/
theorem check_ok (h : JsD d ds js) (hok : ∀ j, j ∈ js → okJ j) (hl : js.length ≤ 5) : f_check_jobs d = .nx () := by
  obtain ⟨u, e, _⟩ := o_val (m := f_check_jobs d) (N := fun _ => True) (by
    refine o_fin ?_
    unfold m_check_jobs
    rw [h.seq, h.lenD, h.items]
    refine o_ite (fun z => nomatch z) fun _ => ?_
    refine o_bindR (o_eq rfl ?_)
    refine o_ite (fun z => absurd (of_decide_eq_true z) (by omega)) fun _ => ?_
    refine o_bindR (o_eq rfl (o_bind ?_))
    refine o_for (fun _ _ => True) trivial (fun i s x hx _ => ?_) fun _ _ => trivial
    obtain ⟨j, hj, hx2⟩ := h.at_ i x hx
    obtain ⟨h1, h2, h3, h4, h5, h6⟩ := hok j (List.mem_of_getElem? hj)
    rw [hx2.seq, hx2.len, hx2.a0, hx2.a1, hx2.a2]
    simp [whole_in_ok (x := j.1) (lo := 1) (hi := 12) ⟨h1, h2⟩, whole_in_ok (x := j.2.1) (lo := 1) (hi := 24) ⟨h3, h4⟩, intD_int, whole_in_ok (x := j.2.2) (lo := 0) (hi := j.2.1 - 1) ⟨h5, by omega⟩]
    trivial)
  exact e
end
theorem idx_last {α : Type} {s : List α} {l : α} (h : s[s.length - 1]? = some l) : idx s (-1) = .nx l := by
  have hl : s.length - 1 < s.length := (List.getElem?_eq_some_iff.mp h).1
  unfold idx atI ixN
  rw [if_neg (by omega), if_pos (by omega)]
  have e : ((-1 : Int) + (s.length : Int)).toNat = s.length - 1 := by omega
  show (match s[((-1 : Int) + (s.length : Int)).toNat]? with
    | some a => O.nx a
    | none => .stuck) = _
  rw [e, h]
theorem cut_to {α : Type} {xs : List α} {k : Nat} (h : k ≤ xs.length) : cutL xs none (some (k : Int)) = xs.take k := by
  unfold cutL
  have e1 : HT.sIx xs.length 0 none = 0 := rfl
  have e2 : HT.sIx xs.length xs.length (some (k : Int)) = k := by rw [HT.sIx_nat]; omega
  rw [e1, e2, List.drop_zero, Nat.sub_zero]
theorem cut_from {α : Type} {xs : List α} {k : Nat} (h : k ≤ xs.length) : cutL xs (some (k : Int)) none = xs.drop k := by
  unfold cutL
  have e1 : HT.sIx xs.length 0 (some (k : Int)) = k := by rw [HT.sIx_nat]; omega
  have e2 : HT.sIx xs.length xs.length none = xs.length := rfl
  rw [e1, e2]
  exact List.take_of_length_le (by simp)
section
variable {d : PyData} {ds : List PyData} {js : List Job} {i : Nat} {j : Job}
theorem JsD.get (h : JsD d ds js) (hj : js[i]? = some j) : ∃ x, ds[i]? = some x ∧ JD x j ∧ atD d (i : Int) = .nx x := by
  have hi : i < ds.length := by rw [h.len]; exact (List.getElem?_eq_some_iff.mp hj).1
  have e : ds[i]? = some ds[i] := List.getElem?_eq_getElem hi
  obtain ⟨j', hj', hx⟩ := h.at_ i _ e
  rw [hj] at hj'
  cases hj'
  refine ⟨ds[i], e, hx, ?_⟩
  unfold atD
  rw [h.items]
  exact idx_nat e
theorem JsD.cut (h : JsD d ds js) (hi : i ≤ js.length) : ∃ c, cutD d none (some (i : Int)) = .nx c ∧ itemsD c = .nx (ds.take i) := by
  have hi' : i ≤ ds.length := by rw [h.len]; exact hi
  rcases h.is with rfl | rfl
  · exact ⟨.tuple (ds.take i), by show O.nx (PyData.tuple (cutL ds none (some (i : Int)))) = _; rw [cut_to hi'], rfl⟩
  · exact ⟨.list (ds.take i), by show O.nx (PyData.list (cutL ds none (some (i : Int)))) = _; rw [cut_to hi'], rfl⟩
theorem place_ok (h : JsD d ds js) (hi : i < js.length) : f_check_job_place (d, (i : Int)) = .nx () := by
  unfold f_check_job_place m_check_job_place
  rw [h.lenD]
  simp only [bindR_nx]
  rw [whole_in_ok (x := (i : Int)) (lo := 0) (hi := (js.length : Int) - 1) ⟨by omega, by omega⟩]
  rfl
end
end Lw

set_option Elab.async false
set_option linter.all false
set_option maxRecDepth 100000
set_option maxHeartbeats 1000000
namespace Lw
open PySem L2 Gv Tk
/-! ### numbers and draws -/
def Nn (l : List Int) : Prop := ∀ x, x ∈ l → 0 ≤ x
theorem Nn.app {l : List Int} {x : Int} (h : Nn l) (hx : 0 ≤ x) : Nn (l ++ [x]) := fun y hy => by
  rcases List.mem_append.mp hy with hy | hy
  · exact h y hy
  · have : y = x := by simpa using hy
    omega
theorem numbers_ok {ns : List Int} (hl : ns.length ≤ 63) : ∃ nums, f_law_numbers ns = .nx nums ∧ Nn nums := by
  refine o_val ?_
  refine o_fin ?_
  unfold m_law_numbers
  refine o_lt ?_
  refine o_bindR (o_eq (rngR_nx (by unfold minI; split <;> omega)) ?_)
  refine o_bind ?_
  refine o_for (fun k (s : List Int) => Nn s ∧ s.length ≤ 45 * k) ⟨fun x hx => (nomatch hx), by simp⟩ (fun k s b hb hs => ?_) fun s hs => ?_
  · have hk : k < 63 ∧ b = (k : Int) ∧ k < ns.length := by
      have e := rangeL_get hb
      have l := (List.getElem?_eq_some_iff.mp hb).1
      rw [rangeL_len] at l
      unfold minI at l
      split at l <;> omega
    obtain ⟨h63, rfl, hkl⟩ := hk
    obtain ⟨hs1, hs2⟩ := hs
    refine o_bindR (o_eq (idx_nat (List.getElem?_eq_getElem hkl)) ?_)
    refine o_lt ?_
    refine o_bind (N' := _) ?_
    have main : ∀ cell turned : Int, 0 ≤ cell → 0 ≤ turned → Out
        (if (decide (((10 : Int) ^ ((18 : Int)).toNat) ≤ cell)) then (bindR (rngR 0 (45 : Int)) fun l10 =>
(forO (fun (s11 : ((List Int) × Int)) (b12 : Int) =>
if (decide ((0 : Int) < s11.2)) then (bindR (appR s11.1 (s11.2 % (60 : Int))) fun ys13 =>
lt (s11.2 / (60 : Int)) fun (cell_14 : Int) =>
.nx (ys13, cell_14)) else (.nx (s11.1, s11.2))) l10 (s, cell)).bind fun (s11 : ((List Int) × Int)) =>
.nx s11.1) else (lt (((((cell * (16807 : Int)) + ((k : Int) * (7919 : Int))) + (turned * (104729 : Int))) + (11 : Int)) % (2147483629 : Int)) fun (seed_15 : Int) =>
bindR (rngR 0 (7 : Int)) fun l16 =>
(forO (fun (s17 : ((List Int) × Int)) (b18 : Int) =>
bindR (mulR (s17.2 / (1000 : Int)) b18) fun t19 =>
lt ((((s17.2 * (39373 : Int)) + t19) + (7919 : Int)) % (2147483629 : Int)) fun (seed_20 : Int) =>
bindR (appR s17.1 ((seed_20 / (7 : Int)) % (55440 : Int))) fun ys21 =>
.nx (ys21, seed_20)) l16 (s, seed_15)).bind fun (s17 : ((List Int) × Int)) =>
.nx s17.1) : O (List Int) (List Int) (List Int)) (fun s' => Nn s' ∧ s'.length ≤ 45 * (k + 1)) (fun r => Nn r) (fun _ => False) (fun _ => False) (fun _ => False) := by
      intro cell turned hc ht
      refine o_ite (fun _ => ?_) fun _ => ?_
      · refine o_bindR (o_eq (rngR_nx (by omega)) ?_)
        refine o_bind ?_
        refine o_for (fun n (s' : List Int × Int) => Nn s'.1 ∧ s'.1.length ≤ 45 * k + n ∧ 0 ≤ s'.2) ⟨hs1, by simpa using hs2, hc⟩ (fun n s' b hb h => ?_) fun s' h => ?_
        · obtain ⟨h1, h2, h3⟩ := h
          have hn : n < 45 := by
            have l := (List.getElem?_eq_some_iff.mp hb).1
            rw [rangeL_len] at l
            omega
          refine o_ite (fun _ => ?_) fun _ => ?_
          · rw [appR_nx (by omega)]
            refine o_bindR (o_eq rfl ?_)
            exact ⟨h1.app (Int.emod_nonneg _ (by omega)), by simp; omega, Int.ediv_nonneg h3 (by omega)⟩
          · exact ⟨h1, (show s'.1.length ≤ 45 * k + (n + 1) by omega), h3⟩
        · rw [rangeL_len] at h
          exact ⟨h.1, by have := h.2.1; omega⟩
      · refine o_lt ?_
        refine o_bindR (o_eq (rngR_nx (by omega)) ?_)
        refine o_bind ?_
        refine o_for (fun n (s' : List Int × Int) => Nn s'.1 ∧ s'.1.length ≤ 45 * k + n ∧ 0 ≤ s'.2 ∧ s'.2 < 2147483629) ⟨hs1, by simpa using hs2, Int.emod_nonneg _ (by omega), Int.emod_lt_of_pos _ (by omega)⟩ (fun n s' b hb h => ?_) fun s' h => ?_
        · obtain ⟨h1, h2, h3, h4⟩ := h
          have hb2 := mem_rangeL.mp (List.mem_of_getElem? hb)
          have hn : n < 7 := by
            have l := (List.getElem?_eq_some_iff.mp hb).1
            rw [rangeL_len] at l
            omega
          rw [mulR_nx (.inr (by omega))]
          refine o_bindR (o_eq rfl ?_)
          refine o_lt ?_
          rw [appR_nx (by omega)]
          refine o_bindR (o_eq rfl ?_)
          exact ⟨h1.app (Int.emod_nonneg _ (by omega)), by simp; omega, Int.emod_nonneg _ (by omega), Int.emod_lt_of_pos _ (by omega)⟩
        · rw [rangeL_len] at h
          exact ⟨h.1, by have := h.2.1; omega⟩
    refine o_ite (fun z => ?_) fun z => ?_
    · have z' : ns[k] < 0 := of_decide_eq_true z
      refine o_lt (o_lt (o_nx ?_))
      exact (main (0 - ns[k]) 1 (by omega) (by omega)).imp (fun _ q => q) (fun _ q => q) (fun _ q => q.elim) (fun _ q => q.elim) (fun _ q => q)
    · have z' : ¬ ns[k] < 0 := of_decide_eq_false z
      exact (main ns[k] 0 (by omega) (by omega)).imp (fun _ q => q) (fun _ q => q) (fun _ q => q.elim) (fun _ q => q.elim) (fun _ q => q)
  · refine o_lt (o_rt ?_)
    intro x hx
    exact hs.1 x (List.mem_reverse.mp hx)
theorem draw_ok {nums : List Int} {m : Int} (h : Nn nums) (hm : 0 < m) : OutR (f_law_draw (nums, m)) (fun r => 0 ≤ r.1 ∧ r.1 < m ∧ Nn r.2) (fun _ => False) := by
  refine o_fin ?_
  unfold m_law_draw
  refine o_ite (fun _ => ⟨Int.le_refl _, hm, h⟩) fun z => ?_
  have z' : ¬ (nums.length : Int) = 0 := of_decide_eq_false z
  have hl : nums.length - 1 < nums.length := by omega
  have e : nums[nums.length - 1]? = some nums[nums.length - 1] := List.getElem?_eq_getElem hl
  have ep : popR nums = .nx (nums[nums.length - 1], nums.dropLast) := by unfold popR; rw [e]
  refine o_bindR (o_eq ep ?_)
  refine o_bindR (o_eq (modR_nx hm) ?_)
  exact ⟨Int.emod_nonneg _ (by omega), Int.emod_lt_of_pos _ hm, fun x hx => h x ((List.dropLast_sublist _).subset hx)⟩
end Lw

set_option Elab.async false
set_option linter.all false
set_option maxRecDepth 100000
set_option maxHeartbeats 1000000
namespace Lw
open PySem L2 Gv Tk
theorem setR_nat {α : Type} {xs : List α} {k : Nat} {x : α} (h : k < xs.length) : setR xs (k : Int) x = .nx (xs.set k x) := by
  unfold setR
  rw [ixN_nat h]
theorem bj {a : Option Nat} : decide (mi a < 0) = a.isNone := by
  cases a with
  | none => rfl
  | some k => exact decide_eq_false (by simp only [mi]; omega)
theorem come_pkg {d : PyData} {ds : List PyData} {js : List Job} {left : List Int} {t : Nat} (hd : JsD d ds js) (hl : left.length = js.length) (hp : ∀ j, j ∈ js → 0 < j.2.1) : f_jobs_come (d, left, (t : Int)) = .nx (mo (missL js left t), comeL js left t) := by
  obtain ⟨r, e, h⟩ := o_val (m := f_jobs_come (d, left, (t : Int))) (N := fun r => r = (mo (missL js left t), comeL js left t)) (by
    refine o_fin ?_
    unfold m_jobs_come
    refine o_bindR (o_eq hd.items ?_)
    refine o_bind ?_
    refine o_for (fun k (s : List Int × Option Int) => s = (comeL (js.take k) left t, mo (missL (js.take k) left t))) (by rw [List.take_zero, comeL_nil, missL_nil]; rfl) (fun k s b hb hs => ?_) fun s hs => ?_
    · obtain ⟨b1, b2⟩ := enumL_get hb
      obtain ⟨b, y⟩ := b
      subst b1
      subst hs
      obtain ⟨j, hj, hjd⟩ := hd.at_ k y b2
      have hk : k < js.length := (List.getElem?_eq_some_iff.mp hj).1
      obtain ⟨x, hx⟩ : ∃ x, left[k]? = some x := ⟨_, List.getElem?_eq_getElem (show k < left.length by omega)⟩
      have hx2 := (comeL_get (js.take k) left t k (List.length_take_le k js)).trans hx
      have hlen : k < (comeL (js.take k) left t).length := by rw [comeL_len]; omega
      have e1 := come_succ (t := t) hj hx
      have e2 := miss_succ (t := t) hj hx
      refine o_bindR (o_eq hjd.unp ?_)
      refine o_bindR (o_eq rfl ?_)
      refine o_bindR (o_eq rfl ?_)
      refine o_bindR (o_eq rfl ?_)
      refine o_bindR (o_eq (modR_nx (hp _ (List.mem_of_getElem? hj))) ?_)
      refine o_ite (fun z => ?_) fun z => ?_
      · have z' : (t : Int) % j.2.1 = j.2.2 := of_decide_eq_true z
        rw [if_pos z'] at e1
        refine o_bind (Out.imp (N := fun s8 => s8 = mo (missL (js.take (k + 1)) left t)) (T := fun _ => False) (B := fun _ => False) (C := fun _ => False) (E := fun _ => False) ?_ (fun s8 h8 => ?_) (fun _ q => q.elim) (fun _ q => q.elim) (fun _ q => q.elim) fun _ q => q)
        · rw [e2]
          refine o_bind (o_bindR (o_eq (idx_nat hx2) ?_))
          refine o_ite (fun y => ?_) fun y => ?_
          · have y' : 0 < x := of_decide_eq_true y
            refine o_nx ?_
            cases q : missL (js.take k) left t with
            | none => exact o_ite (fun _ => o_lt (o_nx (by simp only [if_pos (show _ ∧ _ from ⟨z', y'⟩)]; rfl))) fun w => nomatch w
            | some m => exact o_ite (fun w => nomatch w) fun w => o_nx rfl
          · have y' : ¬ 0 < x := of_decide_eq_false y
            refine o_nx (o_ite (fun w => nomatch w) fun w => o_nx ?_)
            cases q : missL (js.take k) left t with
            | none => simp only [if_neg (show ¬ ((t : Int) % j.2.1 = j.2.2 ∧ 0 < x) from fun w => y' w.2)]
            | some m => rfl
        · subst h8
          refine o_bindR (o_eq (idx_nat hx2) ?_)
          refine o_bindR (o_eq (setR_nat hlen) ?_)
          refine o_nx ?_
          rw [e1]
      · have z' : ¬ (t : Int) % j.2.1 = j.2.2 := of_decide_eq_false z
        rw [if_neg z'] at e1
        refine o_nx ?_
        rw [e1, e2]
        cases q : missL (js.take k) left t with
        | none => simp only [if_neg (show ¬ ((t : Int) % j.2.1 = j.2.2 ∧ 0 < x) from fun w => z' w.1)]
        | some m => rfl
    · rw [enumL_len, hd.len, List.take_length] at hs
      subst hs
      exact o_rt rfl)
  rw [e, h]
theorem run_pkg {left : List Int} (hl : left.length ≤ 1000000) : f_run_one_rung left = .nx (mi (whoL left), runL left) := by
  obtain ⟨r, e, h⟩ := o_val (m := f_run_one_rung left) (N := fun r => r = (mi (whoL left), runL left)) (by
    refine o_fin ?_
    unfold m_run_one_rung
    refine o_bindR (o_eq (rngR_nx (by omega)) ?_)
    refine o_bind ?_
    refine o_for (fun k (s : List Int) => s = left ∧ ∀ (i : Nat) (y : Int), i < k → left[i]? = some y → y ≤ 0) ⟨rfl, fun i y h => absurd h (by omega)⟩ (fun k s b hb hs => ?_) fun s hs => ?_
    · obtain ⟨rfl, hk⟩ := rangeL_get0 hb
      obtain ⟨rfl, hs⟩ := hs
      obtain ⟨x, hx⟩ : ∃ x, s[k]? = some x := ⟨_, List.getElem?_eq_getElem hk⟩
      refine o_bindR (o_eq (idx_nat hx) ?_)
      refine o_ite (fun z => ?_) fun z => ?_
      · have z' : 0 < x := of_decide_eq_true z
        obtain ⟨e1, e2⟩ := who_at hx z' hs
        refine o_bindR (o_eq (idx_nat hx) ?_)
        refine o_bindR (o_eq (setR_nat hk) ?_)
        refine o_rt ?_
        rw [e1, e2]
        rfl
      · have z' : ¬ 0 < x := of_decide_eq_false z
        refine o_nx ⟨rfl, fun i y hi hy => ?_⟩
        rcases Nat.lt_succ_iff_lt_or_eq.mp hi with hi | rfl
        · exact hs i y hi hy
        · rw [hx] at hy
          cases hy
          omega
    · rw [rangeL_len] at hs
      obtain ⟨rfl, hs⟩ := hs
      obtain ⟨e1, e2⟩ := who_none (xs := s) fun i y hy => hs i y (by have := (List.getElem?_eq_some_iff.mp hy).1; omega) hy
      refine o_rt ?_
      rw [e1, e2]
      rfl)
  rw [e, h]
def okAll (js : List Job) : Prop := (∀ j, j ∈ js → okJ j) ∧ js.length ≤ 5
theorem okAll.p {js : List Job} (h : okAll js) : ∀ j, j ∈ js → 0 < j.2.1 := fun j hj => by have := (h.1 j hj).2.2.1; omega
theorem okAll.r {js : List Job} (h : okAll js) : ∀ j, j ∈ js → 0 ≤ j.1 := fun j hj => by have := (h.1 j hj).1; omega
theorem okAll.l {js : List Job} (h : okAll js) (t : Nat) : (runL (comeL js (st js t) t)).length ≤ 1000000 ∧ (comeL js (st js t) t).length ≤ 1000000 ∧ (st js t).length ≤ 1000000 := by
  have := h.2
  rw [runL_len, comeL_len, st_len]
  omega
theorem zeros_law {js : List Job} (h : js.length ≤ 5) : lcR (fun (s2 : Unit) (b1 : (Int × Int × Int)) => .nx ((), some (0 : Int))) js () [] = .nx ((), zs js) := by
  rw [lcR_map (fun _ => (0 : Int)) js [] (fun _ _ => rfl) (by simp; omega)]
  rfl
theorem map_const {α β γ : Type} (c : γ) : ∀ {xs : List α} {ys : List β}, xs.length = ys.length → xs.map (fun _ => c) = ys.map fun _ => c
  | [], [], _ => rfl
  | _ :: xs, _ :: ys, h => by rw [List.map_cons, List.map_cons, map_const c (xs := xs) (ys := ys) (by simpa using h)]
  | [], _ :: _, h => by simp at h
  | _ :: _, [], h => by simp at h
theorem zeros_pkg {d : PyData} {ds : List PyData} {js : List Job} (hd : JsD d ds js) (h : js.length ≤ 5) : lcR (fun (s2 : Unit) (b1 : PyData) => .nx ((), some (0 : Int))) ds () [] = .nx ((), zs js) := by
  have hl := hd.len
  rw [lcR_map (fun _ => (0 : Int)) ds [] (fun _ _ => rfl) (by simp; omega)]
  unfold zs
  rw [map_const (0 : Int) hl]
  rfl
theorem nat_mod {t c : Nat} : decide ((t : Int) % (c : Int) = 0) = decide (t % c = 0) := by
  have : ((t % c : Nat) : Int) = (t : Int) % (c : Int) := Int.natCast_emod t c
  exact decide_eq_decide.mpr (by omega)
theorem mo_none {o : Option Nat} : (mo o).isNone = o.isNone := by cases o <;> rfl
theorem rep_iff {js : List Job} {c t : Nat} (hc : 0 < c) (h : t % c = 0) : rep js c t ↔ seen js c t = some (st js t) := by
  unfold rep
  cases t with
  | zero => exact ⟨fun q => absurd q.2.1 (by omega), fun q => by simp [seen] at q⟩
  | succ t =>
    rw [seen_eq hc (by omega) h]
    exact ⟨fun q => congrArg some q.2.2, fun q => ⟨h, by omega, Option.some.inj q⟩⟩
theorem seen_step {js : List Job} {c t : Nat} : seen js c (t + 1) = if t % c = 0 then some (st js t) else seen js c t := rfl
theorem first_pkg {d : PyData} {ds : List PyData} {js : List Job} {c T : Nat} (hd : JsD d ds js) (h : okAll js) (hc : 0 < c) (hcm : f_common_period d = .nx (c : Int)) (hT : At1 js c T) (hT2 : T < 90000) : f_first_miss d = .nx (ans js c T) := by
  obtain ⟨r, e, h⟩ := o_val (m := f_first_miss d) (N := fun r => r = ans js c T) (by
    refine o_fin ?_
    unfold m_first_miss
    refine o_bindR (o_eq (check_ok hd h.1 h.2) ?_)
    refine o_bindR (o_eq hcm ?_)
    refine o_bindR (o_eq hd.items ?_)
    refine o_bindR (o_eq (zeros_pkg hd h.2) ?_)
    refine o_lt ?_
    refine o_bind ?_
    refine o_while (fun s => ∃ t, t ≤ T ∧ s = (st js t, seen js c t, (t : Int))) (fun s => (T + 1 - s.2.2.toNat)) (fun s hs => ?_) 100000 _ ⟨0, Nat.zero_le _, rfl⟩ (by show T + 1 - 0 < 100000; omega)
    obtain ⟨t, ht, rfl⟩ := hs
    refine ⟨fun z => (nomatch z), fun _ => ?_⟩
    have go : seen js c (t + 1) = seen js c (t + 1) → ¬ rep js c t → Out (bindR (f_jobs_come (d, st js t, (t : Int))) fun r12 =>
      if (!(r12.1).isNone) then (bindR (getR r12.1) fun missed_13 =>
      .rt (some (missed_13, (t : Int)))) else (bindR (f_run_one_rung r12.2) fun r14 =>
      lt ((t : Int) + (1 : Int)) fun (tick_15 : Int) =>
      .nx (r14.2, seen js c (t + 1), tick_15)) : O (Option (Int × Int)) ((List Int) × (Option (List Int)) × Int) ((List Int) × (Option (List Int)) × Int)) (fun s' => (∃ t, t ≤ T ∧ s' = (st js t, seen js c t, (t : Int))) ∧ T + 1 - s'.2.2.toNat < T + 1 - ((t : Int)).toNat) (fun r => r = ans js c T) (fun _ => False) (fun s' => (∃ t, t ≤ T ∧ s' = (st js t, seen js c t, (t : Int))) ∧ T + 1 - s'.2.2.toNat < T + 1 - ((t : Int)).toNat) (fun _ => False) := by
      intro _ hr
      refine o_bindR (o_eq (come_pkg hd (st_len js t) h.p) ?_)
      show Out (if (!(mo (ms js t)).isNone) then _ else _) _ _ _ _ _
      cases e : ms js t with
      | none =>
        have hlt : t < T := by
          rcases Nat.lt_or_eq_of_le ht with z | z
          · exact z
          · subst z
            rcases hT.at_ with q | q
            · exact absurd q hr
            · exact absurd e q
        refine o_ite (fun z => (nomatch z)) fun _ => ?_
        refine o_bindR (o_eq (run_pkg (h.l t).2.1) ?_)
        refine o_lt (o_nx ⟨⟨t + 1, hlt, ?_⟩, ?_⟩)
        · show (_, _, (t : Int) + 1) = (_, _, ((t + 1 : Nat) : Int))
          rw [Int.natCast_add]
          rfl
        · show T + 1 - ((t : Int) + 1).toNat < T + 1 - ((t : Int)).toNat
          omega
      | some m =>
        have hlt : t = T := by
          rcases Nat.lt_or_eq_of_le ht with z | z
          · exact absurd (.inr (by rw [e]; simp)) (hT.no t z)
          · exact z
        subst hlt
        refine o_ite (fun _ => ?_) fun z => (nomatch z)
        refine o_bindR (o_eq (show getR (mo (ms js t)) = .nx (m : Int) by rw [e]; rfl) ?_)
        refine o_rt ?_
        unfold ans
        rw [if_neg hr, e]
        rfl
    refine o_bind ?_
    refine o_bindR (o_eq (modR_nx (by omega)) ?_)
    by_cases hm : t % c = 0
    · refine o_ite (fun _ => ?_) fun z => nomatch ((decide_eq_true hm).symm.trans (nat_mod.symm.trans z))
      refine o_ite (fun z => ?_) fun z => ?_
      · have z' := of_decide_eq_true z
        have hr : rep js c t := (rep_iff hc hm).mpr z'
        have hlt : t = T := by
          rcases Nat.lt_or_eq_of_le ht with z | z
          · exact absurd (.inl hr) (hT.no t z)
          · exact z
        subst hlt
        refine o_rt ?_
        unfold ans
        rw [if_pos hr]
      · have z' := of_decide_eq_false z
        have q := go rfl fun hr => z' ((rep_iff hc hm).mp hr)
        rw [seen_step, if_pos hm] at q
        exact o_lt (o_nx q)
    · refine o_ite (fun z => nomatch ((decide_eq_false hm).symm.trans (nat_mod.symm.trans z))) fun _ => ?_
      have q := go rfl fun hr => hm hr.1
      rw [seen_step, if_neg hm] at q
      exact o_nx q)
  rw [e, h]
def keptL (o : Option (List Int)) : List Int := o.getD [-1]
end Lw

set_option Elab.async false
set_option linter.all false
set_option maxRecDepth 100000
set_option maxHeartbeats 1000000
namespace Lw
open PySem L2 Gv Tk
theorem lcR_filter {σ γ : Type} {s : σ} {f : σ → γ → R (σ × Option γ)} (p : γ → Bool) : ∀ (xs : List γ) (acc : List γ), (∀ b, b ∈ xs → f s b = .nx (s, if p b then some b else none)) → acc.length + xs.length ≤ 1000000 → lcR f xs s acc = .nx (s, acc ++ xs.filter p)
  | [], acc, _, _ => by rw [List.filter_nil, List.append_nil]; rfl
  | x :: xs, acc, h, hl => by
    have e := h x List.mem_cons_self
    have hl' : acc.length < 1000000 := by simp at hl; omega
    unfold lcR
    rw [e]
    cases q : p x with
    | true =>
      show (if acc.length < 1000000 then lcR f xs s (acc ++ [x]) else .stuck) = _
      rw [if_pos hl', lcR_filter p xs (acc ++ [x]) (fun b hb => h b (List.mem_cons_of_mem _ hb)) (by simp at hl ⊢; omega), List.append_assoc, List.filter_cons_of_pos q]
      rfl
    | false =>
      show lcR f xs s acc = _
      rw [lcR_filter p xs acc (fun b hb => h b (List.mem_cons_of_mem _ hb)) (by simp at hl ⊢; omega), List.filter_cons_of_neg (by rw [q]; simp)]
structure IsC (js : List Job) (c : Nat) : Prop where
  pos : 0 < c
  per : Per js c
  min : ∀ m : Nat, Per js m → c ∣ m
theorem lcmI_nx {a b : Nat} (ha : a < 1073741824) (hb : b < 1073741824) : lcmI (a : Int) (b : Int) = .nx ((Nat.lcm a b : Nat) : Int) := by
  unfold lcmI
  exact gd_true (by simp [ha, hb])
theorem common_pkg {d : PyData} {ds : List PyData} {js : List Job} {M : Nat} (hd : JsD d ds js) (h : okAll js) (hM : Per js M) (hM0 : 0 < M) (hM1 : M < 1000000) : ∃ c : Nat, f_common_period d = .nx (c : Int) ∧ IsC js c ∧ c ∣ M := by
  obtain ⟨r, e, c, rfl, q⟩ := o_val (m := f_common_period d) (N := fun r => ∃ c : Nat, r = (c : Int) ∧ IsC js c ∧ c ∣ M) (by
    refine o_fin ?_
    unfold m_common_period
    refine o_lt ?_
    refine o_bindR (o_eq hd.items ?_)
    refine o_bind ?_
    refine o_for (fun k (s : Int) => ∃ c : Nat, s = (c : Int) ∧ IsC (js.take k) c ∧ c ∣ M) ⟨1, rfl, ⟨by omega, fun j hj => by simp at hj, fun m _ => Nat.one_dvd m⟩, Nat.one_dvd M⟩ (fun k s b hb hs => ?_) fun s hs => ?_
    · obtain ⟨c, rfl, hc, hcM⟩ := hs
      obtain ⟨j, hj, hjd⟩ := hd.at_ k b hb
      have hjm := List.mem_of_getElem? hj
      obtain ⟨o1, o2, o3, o4, o5, o6⟩ := h.1 j hjm
      obtain ⟨p, hp⟩ : ∃ p : Nat, j.2.1 = (p : Int) := ⟨j.2.1.toNat, by omega⟩
      have hkl : k < js.length := (List.getElem?_eq_some_iff.mp hj).1
      have htk : js.take (k + 1) = js.take k ++ [j] := by
        rw [List.take_succ, hj]
        rfl
      have hcl : c ≤ M := Nat.le_of_dvd hM0 hcM
      have hpM : p ∣ M := by
        have := (hM j hjm).2
        rw [hp] at this
        exact Int.natCast_dvd_natCast.mp this
      refine o_bindR (o_eq hjd.a1 ?_)
      refine o_bindR (o_eq (intD_int _) ?_)
      rw [hp]
      refine o_bindR (o_eq (lcmI_nx (by omega) (by omega)) ?_)
      refine o_nx ⟨Nat.lcm c p, rfl, ⟨Nat.lcm_pos hc.pos (by omega), fun u hu => ?_, fun m hm => ?_⟩, Nat.lcm_dvd hcM hpM⟩
      · rw [htk] at hu
        rcases List.mem_append.mp hu with hu | hu
        · exact ⟨(hc.per u hu).1, Int.dvd_trans (hc.per u hu).2 (Int.natCast_dvd_natCast.mpr (Nat.dvd_lcm_left c p))⟩
        · have : u = j := by simpa using hu
          subst this
          exact ⟨by omega, by rw [hp]; exact Int.natCast_dvd_natCast.mpr (Nat.dvd_lcm_right c p)⟩
      · rw [htk] at hm
        refine Nat.lcm_dvd (hc.min m fun u hu => hm u (List.mem_append_left _ hu)) ?_
        have := (hm j (List.mem_append_right _ List.mem_cons_self)).2
        rw [hp] at this
        exact Int.natCast_dvd_natCast.mp this
    · obtain ⟨c, rfl, hc, hcM⟩ := hs
      rw [hd.len, List.take_length] at hc
      exact o_rt ⟨c, rfl, hc, hcM⟩)
  exact ⟨c, e, q⟩
theorem common_law {js : List Job} {c : Nat} (h : okAll js) (hc : IsC js c) (h30 : c ≤ 30) : f_law_common js = .nx (c : Int) := by
  obtain ⟨r, e, q⟩ := o_val (m := f_law_common js) (N := fun r => r = (c : Int)) (by
    refine o_fin ?_
    unfold m_law_common
    refine o_bindR (o_eq (rngR_nx (by omega)) ?_)
    refine o_bind ?_
    refine o_for (fun k (_ : Unit) => k < c) hc.pos (fun k s b hb hs => ?_) fun s hs => ?_
    · have eb := rangeL_get hb
      have hk : k < 30 := by have := (List.getElem?_eq_some_iff.mp hb).1; rw [rangeL_len] at this; omega
      obtain rfl : b = ((k + 1 : Nat) : Int) := by omega
      have hl := h.2
      refine o_bindR (o_eq (lcR_filter (fun j : Job => !decide (((k + 1 : Nat) : Int) % j.2.1 = 0)) js [] (fun j hj => ?_) (by simp; omega)) ?_)
      · rw [modR_nx (h.p j hj)]
        show (if (!decide (((k + 1 : Nat) : Int) % j.2.1 = 0)) = true then O.nx ((), some j) else .nx ((), none)) = _
        cases (!decide (((k + 1 : Nat) : Int) % j.2.1 = 0)) <;> rfl
      · refine o_ite (fun z => ?_) fun z => ?_
        · have z' : ((js.filter fun j : Job => !decide (((k + 1 : Nat) : Int) % j.2.1 = 0)).length : Int) = 0 := of_decide_eq_true z
          have hnil : (js.filter fun j : Job => !decide (((k + 1 : Nat) : Int) % j.2.1 = 0)) = [] := List.eq_nil_of_length_eq_zero (by omega)
          have hper : Per js (k + 1) := fun j hj => ⟨h.p j hj, by
            have := List.filter_eq_nil_iff.mp hnil j hj
            exact Int.dvd_of_emod_eq_zero (by simpa using this)⟩
          have hd := Nat.le_of_dvd (by omega) (hc.min _ hper)
          refine o_rt ?_
          have : k + 1 = c := by omega
          rw [this]
        · have z' : ¬ ((js.filter fun j : Job => !decide (((k + 1 : Nat) : Int) % j.2.1 = 0)).length : Int) = 0 := of_decide_eq_false z
          refine o_nx ?_
          have : k + 1 ≠ c := fun e => z' (by
            have : (js.filter fun j : Job => !decide (((k + 1 : Nat) : Int) % j.2.1 = 0)) = [] := List.filter_eq_nil_iff.mpr fun j hj => by
              have := Int.emod_eq_zero_of_dvd (hc.per j hj).2
              rw [e, this]
              simp
            rw [this]
            rfl)
          omega
    · rw [rangeL_len] at hs
      exact absurd hs (by show ¬ (30 < c); omega))
  rw [e, q]
theorem ends_pkg {d : PyData} {ds : List PyData} {js : List Job} {i : Nat} {j : Job} {many T : Nat} (hd : JsD d ds js) (h : okAll js) (hj : js[i]? = some j) (hm : many ≤ 200) (hT : AtE js i j many T) (hT2 : T < 90000) : f_job_ends (d, (i : Int), (many : Int)) = .nx (td js i j T) := by
  have hi : i < js.length := (List.getElem?_eq_some_iff.mp hj).1
  obtain ⟨x, hx1, hx, hx3⟩ := hd.get hj
  obtain ⟨r, e, h⟩ := o_val (m := f_job_ends (d, (i : Int), (many : Int))) (N := fun r => r = td js i j T) (by
    refine o_fin ?_
    unfold m_job_ends
    refine o_bindR (o_eq (check_ok hd h.1 h.2) ?_)
    refine o_bindR (o_eq (place_ok hd hi) ?_)
    refine o_bindR (o_eq (whole_in_ok (x := (many : Int)) (lo := 0) (hi := 200) (by omega)) ?_)
    refine o_ite (fun z => nomatch z) fun _ => ?_
    refine o_bindR (o_eq hx3 ?_)
    refine o_bindR (o_eq hx.unp ?_)
    refine o_bindR (o_eq rfl ?_)
    refine o_bindR (o_eq rfl ?_)
    refine o_bindR (o_eq hd.items ?_)
    refine o_bindR (o_eq (zeros_pkg hd h.2) ?_)
    refine o_lt (o_lt (o_bind ?_))
    refine o_while (fun s => ∃ t, t ≤ T ∧ s = (st js t, td js i j t, (t : Int))) (fun s => (T + 1 - s.2.2.toNat)) (fun s hs => ?_) 100000 _ ⟨0, Nat.zero_le _, rfl⟩ (by show T + 1 - 0 < 100000; omega)
    obtain ⟨t, ht, rfl⟩ := hs
    have hle := hT.le t ht
    refine ⟨fun z => ?_, fun z => ?_⟩
    · have z' : ¬ ((td js i j t).length : Int) < (many : Int) := of_decide_eq_false z
      have : t = T := by
        rcases Nat.lt_or_eq_of_le ht with q | q
        · exact absurd (.inl (by omega)) (hT.no t q)
        · exact q
      subst this
      exact o_rt rfl
    · have z' : ((td js i j t).length : Int) < (many : Int) := of_decide_eq_true z
      refine o_bindR (o_eq (come_pkg hd (st_len js t) h.p) ?_)
      show Out (if (!(mo (ms js t)).isNone) then _ else _) _ _ _ _ _
      cases e : ms js t with
      | some m =>
        have : t = T := by
          rcases Nat.lt_or_eq_of_le ht with q | q
          · exact absurd (.inr (by rw [e]; simp)) (hT.no t q)
          · exact q
        subst this
        exact o_ite (fun _ => o_rt rfl) fun z => (nomatch z)
      | none =>
        have hlt : t < T := by
          rcases Nat.lt_or_eq_of_le ht with q | q
          · exact q
          · subst q
            rcases hT.at_ with q | q
            · omega
            · exact absurd e q
        refine o_ite (fun z => (nomatch z)) fun _ => ?_
        refine o_bindR (o_eq (run_pkg (h.l t).2.1) ?_)
        have hst : runL (comeL js (st js t) t) = st js (t + 1) := rfl
        have hil : i < (st js (t + 1)).length := by rw [st_len]; exact hi
        obtain ⟨y, hy⟩ : ∃ y, (st js (t + 1))[i]? = some y := ⟨_, List.getElem?_eq_getElem hil⟩
        rw [hst]
        have ht1 : ((t : Int) + 1) = ((t + 1 : Nat) : Int) := by rw [Int.natCast_add]; rfl
        have hlast : T + 1 - ((t + 1 : Nat) : Int).toNat < T + 1 - (t : Int).toNat := by omega
        refine o_lt ?_
        refine o_bind (Out.imp (N := fun b => b = decide (whoL (comeL js (st js t) t) = some i ∧ (st js (t + 1))[i]? = some 0)) (T := fun _ => False) (B := fun _ => False) (C := fun _ => False) (E := fun _ => False) ?_ (fun b hb => ?_) (fun _ q => q.elim) (fun _ q => q.elim) (fun _ q => q.elim) fun _ q => q)
        · refine o_ite (fun w => ?_) fun w => ?_
          · have w' : mi (whoL (comeL js (st js t) t)) = (i : Int) := of_decide_eq_true w
            have w2 : whoL (comeL js (st js t) t) = some i := mi_inj w'
            refine o_bindR (o_eq (idx_nat hy) ?_)
            refine o_nx ?_
            rw [hy]
            refine decide_eq_decide.mpr ⟨fun q => ⟨w2, by rw [q]⟩, fun q => Option.some.inj q.2⟩
          · have w' : ¬ mi (whoL (comeL js (st js t) t)) = (i : Int) := of_decide_eq_false w
            refine o_nx ?_
            exact (decide_eq_false fun q => w' (by rw [q.1]; rfl)).symm
        · subst hb
          have hts := td_succ js i j t
          have htl := td_len js i j t
          refine o_ite (fun w => ?_) fun w => ?_
          · rw [if_pos (of_decide_eq_true w)] at hts
            show Out (bindR (mulR ((td js i j t).length : Int) j.2.1) _) _ _ _ _ _
            rw [mulR_nx (.inl (by omega))]
            refine o_bindR (o_eq rfl ?_)
            refine o_bindR (o_eq (appR_nx (by show (td js i j t).length < 1000000; omega)) ?_)
            refine o_nx ⟨⟨t + 1, hlt, ?_⟩, ?_⟩
            · rw [hts]
              show (_, _, (t : Int) + 1) = (_, _, ((t + 1 : Nat) : Int))
              rw [ht1]
            · show T + 1 - ((t : Int) + 1).toNat < T + 1 - (t : Int).toNat
              rw [ht1]
              exact hlast
          · rw [if_neg (of_decide_eq_false w)] at hts
            refine o_nx ⟨⟨t + 1, hlt, ?_⟩, ?_⟩
            · rw [hts]
              show (_, _, (t : Int) + 1) = (_, _, ((t + 1 : Nat) : Int))
              rw [ht1]
            · show T + 1 - ((t : Int) + 1).toNat < T + 1 - (t : Int).toNat
              rw [ht1]
              exact hlast)
  rw [e, h]
abbrev dJ : Job → PyData := dP3 PyData.int PyData.int PyData.int
theorem jsd_t (js : List Job) : JsD (dT dJ js) (js.map dJ) js := ⟨.inl rfl, by simp, fun i x hx => by
  rw [List.getElem?_map] at hx
  cases e : js[i]? with
  | none => rw [e] at hx; simp at hx
  | some j => rw [e] at hx; exact ⟨j, rfl, .inl (Option.some.inj hx).symm⟩⟩
end Lw

set_option Elab.async false
set_option linter.all false
set_option maxRecDepth 100000
set_option maxHeartbeats 1000000
namespace Lw
open PySem L2 Gv Tk
section
variable {d : PyData} {ds : List PyData} {js : List Job} {i : Nat} {j : Job}
/-- a datum as its job's numbers -/
def jobOf (x : PyData) : Job := match x with
  | .tuple [.int a, .int b, .int c] => (a, b, c)
  | .list [.int a, .int b, .int c] => (a, b, c)
  | _ => (0, 0, 0)
theorem JD.job {x : PyData} (h : JD x j) : jobOf x = j := by
  rcases h with rfl | rfl <;> rfl
theorem JsD.jobs (h : JsD d ds js) : ds.map jobOf = js := by
  apply List.ext_getElem?
  intro k
  rw [List.getElem?_map]
  cases e : ds[k]? with
  | none =>
    have : js.length ≤ k := by rw [← h.len]; exact List.getElem?_eq_none_iff.mp e
    rw [List.getElem?_eq_none this]
    rfl
  | some x =>
    obtain ⟨j, hj, hx⟩ := h.at_ k x e
    rw [hj]
    show some (jobOf x) = _
    rw [hx.job]
/-- the row so far -/
structure Grow (js : List Job) (i : Nat) (j : Job) (found : List Int) (n : Nat) (l : Int) : Prop where
  last : found[found.length - 1]? = some l
  row : ∃ pre, found = pre ++ [l] ∧ rowsJ js i j = pre ++ rowsF (loadS (js.take i)) j.1 j.2.1 n l
  lo : Lo js i j l
  n_ : 26 ≤ (n : Int) + l
  len : found.length + n = 26
theorem Grow.start (hok : ∀ j, j ∈ js → okJ j) (hj : okJ j) : Grow js i j [j.1] 25 j.1 :=
  ⟨rfl, ⟨[], rfl, rfl⟩, .start hok hj, by have := hj.1; omega, rfl⟩
theorem Grow.stop {found : List Int} {n : Nat} {l : Int} (h : Grow js i j found n l) (hs : j.2.1 < l ∨ j.1 + loadS (js.take i) l = l) : found = rowsJ js i j := by
  obtain ⟨pre, e1, e2⟩ := h.row
  rw [e2, rows_stop hs, e1]
theorem Grow.next {found : List Int} {n : Nat} {l : Int} (hok : ∀ j, j ∈ js → okJ j) (hj : okJ j) (h : Grow js i j found n l) (h1 : ¬ j.2.1 < l) (h2 : ¬ j.1 + loadS (js.take i) l = l) : ∃ m, n = m + 1 ∧ Grow js i j (found ++ [j.1 + loadS (js.take i) l]) m (j.1 + loadS (js.take i) l) := by
  have := hj.2.2.2.1
  have a := h.n_
  have up := h.lo.up
  obtain ⟨m, rfl⟩ : ∃ m, n = m + 1 := ⟨n - 1, by omega⟩
  obtain ⟨pre, e1, e2⟩ := h.row
  rw [rows_go h1 h2] at e2
  have hl := h.len
  exact ⟨m, rfl, by simp, ⟨found, rfl, by rw [e2, e1, List.append_assoc]; rfl⟩, h.lo.next hok, by omega, by simp; omega⟩
theorem rows_pkg (h : JsD d ds js) (hok : okAll js) (hj : js[i]? = some j) : f_rows_of_response (d, (i : Int)) = .nx (rowsJ js i j) := by
  have hi : i < js.length := (List.getElem?_eq_some_iff.mp hj).1
  have hjo := hok.1 j (List.mem_of_getElem? hj)
  obtain ⟨x, hx1, hx, hx3⟩ := h.get hj
  obtain ⟨c, hc1, hc2⟩ := h.cut (i := i) (by omega)
  obtain ⟨r, e, q⟩ := o_val (m := f_rows_of_response (d, (i : Int))) (N := fun r => r = rowsJ js i j) (by
    refine o_fin ?_
    unfold m_rows_of_response
    refine o_bindR (o_eq (check_ok h hok.1 hok.2) ?_)
    refine o_bindR (o_eq (place_ok h hi) ?_)
    refine o_bindR (o_eq hx3 ?_)
    refine o_bindR (o_eq hx.unp ?_)
    refine o_bindR (o_eq rfl ?_)
    refine o_bindR (o_eq rfl ?_)
    refine o_lt (o_bind ?_)
    refine o_while (fun s => ∃ n l, Grow js i j s n l) (fun s => 27 - s.length) (fun s hs => ?_) 100000 _ ⟨25, j.1, .start hok.1 hjo⟩ (by show 27 - 1 < 100000; omega)
    obtain ⟨n, l, g⟩ := hs
    have lo := g.lo
    have hl3 := g.len
    refine o_r (o_bindR (o_eq (idx_last g.last) ?_))
    refine ⟨fun z => ?_, fun z => ?_⟩
    · have z' : ¬ l ≤ j.2.1 := of_decide_eq_false z
      exact g.stop (.inl (by omega))
    · have z' : l ≤ j.2.1 := of_decide_eq_true z
      have lp := lo.pos
      show Out (bindR (cutD d none (some (i : Int))) _) _ _ _ _ _
      refine o_bindR (o_eq hc1 ?_)
      refine o_bindR (o_eq hc2 ?_)
      refine o_bindR (o_lcR (fun u => (jobOf u).1 * cl l (jobOf u).2.1) (fun u hu => ?_) ?_ ?_)
      · have hu' : u ∈ ds := List.mem_of_mem_take hu
        obtain ⟨k, hk⟩ := List.getElem?_of_mem hu'
        obtain ⟨ju, hju, hjd⟩ := h.at_ k u hk
        obtain ⟨o1, o2, o3, o4, o5, o6⟩ := hok.1 ju (List.mem_of_getElem? hju)
        rw [hjd.a0, hjd.a1]
        refine o_r (o_bindR (o_eq rfl ?_))
        refine o_bindR (o_eq (idx_last g.last) ?_)
        refine o_bindR (o_eq rfl ?_)
        refine o_bindR (o_eq rfl ?_)
        refine o_bindR (o_eq (divR_nx (by omega) (by omega)) ?_)
        refine o_bindR (o_eq rfl ?_)
        refine o_bindR (o_eq (mulR_nx (.inl (by omega))) ?_)
        show _ = _
        rw [hjd.job]
        rfl
      · have q := List.length_take_le i ds
        have := h.len
        have := hok.2
        omega
      · refine o_lt ?_
        have es : j.1 + ((ds.take i).map fun u => (jobOf u).1 * cl l (jobOf u).2.1).sum = j.1 + loadS (js.take i) l := by
          unfold loadS
          rw [← h.jobs, ← List.map_take, List.map_map]
          rfl
        rw [es]
        refine o_bindR (o_eq (idx_last g.last) ?_)
        refine o_ite (fun q => ?_) fun q => ?_
        · have q' : j.1 + loadS (js.take i) l = l := of_decide_eq_true q
          exact g.stop (.inr q')
        · have q' : ¬ j.1 + loadS (js.take i) l = l := of_decide_eq_false q
          obtain ⟨m, rfl, g'⟩ := g.next hok.1 hjo (by omega) q'
          refine o_bindR (o_eq (appR_nx (show s.length < 1000000 by omega)) ?_)
          refine ⟨⟨m, _, g'⟩, ?_⟩
          show 27 - (s ++ [j.1 + loadS (js.take i) l]).length < 27 - s.length
          simp
          omega)
  rw [e, q]
theorem idx_lastI {α : Type} {xs : List α} {l : α} (h : xs[xs.length - 1]? = some l) : idx xs ((xs.length : Int) - 1) = .nx l := by
  have hl := (List.getElem?_eq_some_iff.mp h).1
  have : ((xs.length : Int) - 1) = ((xs.length - 1 : Nat) : Int) := by omega
  rw [this]
  exact idx_nat h
theorem inner_ok (hok : ∀ j, j ∈ js → okJ j) (hj : js[i]? = some j) {l : Int} (hl : 0 ≤ l) {ρ lam : Type} {T : ρ → Prop} {B C : lam → Prop} {E : Er → Prop} {N : Int → Prop} {c : Int} (hN : N (c + loadS (js.take i) l)) :
    Out (forO (fun (s12 : Int) (b13 : Int) =>
bindR (idx js b13) fun t14 =>
bindR (idx js b13) fun t15 =>
bindR (idx js b13) fun t16 =>
bindR (divR ((l + t15.2.1) - (1 : Int)) t16.2.1) fun t17 =>
bindR (mulR t14.1 t17) fun t18 =>
lt (s12 + t18) fun (total_19 : Int) =>
.nx total_19) (rangeL 0 (i : Int)) c : O ρ lam Int) N T B C E := by
  have hi : i < js.length := (List.getElem?_eq_some_iff.mp hj).1
  refine o_for (fun k s => s = c + loadS (js.take k) l) (by simp [loadS]) (fun k s b hb hs => ?_) fun s hs => ?_
  · obtain ⟨rfl, hk⟩ := rangeL_get0 hb
    have hk2 : k < js.length := by omega
    have e : js[k]? = some js[k] := List.getElem?_eq_getElem hk2
    obtain ⟨o1, o2, o3, o4, o5, o6⟩ := hok js[k] (List.getElem_mem hk2)
    refine o_bindR (o_eq (idx_nat e) ?_)
    refine o_bindR (o_eq (idx_nat e) ?_)
    refine o_bindR (o_eq (idx_nat e) ?_)
    refine o_bindR (o_eq (divR_nx (by omega) (by omega)) ?_)
    refine o_bindR (o_eq (mulR_nx (.inl (by omega))) ?_)
    show _ = _
    rw [hs, cl_eq (by omega)]
    unfold loadS
    rw [List.take_succ, e]
    simp only [Option.toList, List.map_append, List.map_cons, List.map_nil, List.sum_append, List.sum_cons, List.sum_nil]
    omega
  · rw [rangeL_len] at hs
    have : ((i : Int) - 0).toNat = i := by omega
    rw [this] at hs
    rw [hs]
    exact hN
theorem rows_law (hok : okAll js) (hj : js[i]? = some j) : f_law_responses (js, (i : Int)) = .nx (rowsJ js i j) := by
  have hi : i < js.length := (List.getElem?_eq_some_iff.mp hj).1
  have hjo := hok.1 j (List.mem_of_getElem? hj)
  have h5 := hok.2
  obtain ⟨r, e, q⟩ := o_val (m := f_law_responses (js, (i : Int))) (N := fun r => r = rowsJ js i j) (by
    refine o_fin ?_
    unfold m_law_responses
    refine o_bindR (o_eq (idx_nat hj) ?_)
    refine o_lt ?_
    refine o_bindR (o_eq (rngR_nx (by omega)) ?_)
    refine o_bind ?_
    refine o_for (fun k (s : List Int) => ∃ n l, Grow js i j s n l ∧ n + k = 25) ⟨25, j.1, .start hok.1 hjo, rfl⟩ (fun k s b hb hs => ?_) fun s hs => ?_
    · obtain ⟨n, l, g, hk⟩ := hs
      have lo := g.lo
      have lp := lo.pos
      refine o_bindR (o_eq (idx_lastI g.last) ?_)
      refine o_bindR (o_eq (idx_nat hj) ?_)
      refine o_ite (fun z => ?_) fun z => ?_
      · have z' : j.2.1 < l := of_decide_eq_true z
        exact o_rt (g.stop (.inl z'))
      · have z' : ¬ j.2.1 < l := of_decide_eq_false z
        refine o_bindR (o_eq (idx_nat hj) ?_)
        refine o_bindR (o_eq (rngR_nx (by show _ ∧ _ ∧ _ ∧ (i : Int) ≤ _; omega)) ?_)
        refine o_bind ?_
        refine inner_ok hok.1 hj (by omega) ?_
        refine o_ite (fun q => ?_) fun q => ?_
        · have q' : j.1 + loadS (js.take i) l = l := of_decide_eq_true q
          exact o_rt (g.stop (.inr q'))
        · have q' : ¬ j.1 + loadS (js.take i) l = l := of_decide_eq_false q
          obtain ⟨m, rfl, g'⟩ := g.next hok.1 hjo z' q'
          have := g.len
          refine o_bindR (o_eq (appR_nx (show s.length < 1000000 by omega)) ?_)
          exact o_nx ⟨m, _, g', by omega⟩
    · obtain ⟨n, l, g, hk⟩ := hs
      rw [rangeL_len] at hk
      exact absurd hk (by show ¬ (n + 200 = 25); omega))
  rw [e, q]
theorem response_pkg (h : JsD d ds js) (hok : okAll js) (hj : js[i]? = some j) : f_response (d, (i : Int)) = .nx (if Rj js i j ≤ j.2.1 then some (Rj js i j) else none) := by
  obtain ⟨x, hx1, hx, hx3⟩ := h.get hj
  obtain ⟨r, e, q⟩ := o_val (m := f_response (d, (i : Int))) (N := fun r => r = (if Rj js i j ≤ j.2.1 then some (Rj js i j) else none)) (by
    refine o_fin ?_
    unfold m_response
    refine o_bindR (o_eq (rows_pkg h hok hj) ?_)
    refine o_bindR (o_eq (idx_last (rowsJ_last js i j).1) ?_)
    refine o_bind (o_bindR (o_eq hx3 ?_))
    refine o_bindR (o_eq hx.a1 ?_)
    refine o_bindR (o_eq rfl ?_)
    refine o_ite (fun z => ?_) fun z => ?_
    · exact o_nx (o_rt (by rw [if_pos (show Rj js i j ≤ j.2.1 from of_decide_eq_true z)]))
    · exact o_nx (o_rt (by rw [if_neg (show ¬ Rj js i j ≤ j.2.1 from of_decide_eq_false z)])))
  rw [e, q]
/-- every task has its time -/
def Well (js : List Job) : Prop := ∀ (i : Nat) (j : Job), js[i]? = some j → Rj js i j ≤ j.2.1
theorem never_pkg (h : JsD d ds js) (hok : okAll js) : ∃ b, f_never_misses d = .nx b ∧ (b = true ↔ Well js) := by
  have h5 := hok.2
  refine o_val ?_
  refine o_fin ?_
  unfold m_never_misses
  refine o_bindR (o_eq (check_ok h hok.1 hok.2) ?_)
  refine o_bindR (o_eq h.lenD ?_)
  refine o_bindR (o_eq (rngR_nx (by omega)) ?_)
  refine o_bindR (o_lcR (fun b => match js[b.toNat]? with
    | some j => decide (Rj js b.toNat j ≤ j.2.1)
    | none => true) (fun b hb => ?_) (by rw [rangeL_len]; omega) ?_)
  · obtain ⟨b1, b2⟩ := mem_rangeL.mp hb
    obtain ⟨k, rfl⟩ : ∃ k : Nat, b = (k : Int) := ⟨b.toNat, by omega⟩
    have hk : k < js.length := by omega
    have e : js[k]? = some js[k] := List.getElem?_eq_getElem hk
    refine o_r (o_bindR (o_eq (response_pkg h hok e) ?_))
    refine o_nx ?_
    simp only [Int.toNat_natCast]
    rw [e]
    by_cases c : Rj js k js[k] ≤ js[k].2.1
    · simp [c]
    · simp [c]
  · refine o_rt ?_
    constructor
    · intro q i j hj
      have hi : i < js.length := (List.getElem?_eq_some_iff.mp hj).1
      have := List.all_eq_true.mp q _ (List.mem_map.mpr ⟨(i : Int), mem_rangeL.mpr ⟨by omega, by omega⟩, rfl⟩)
      simp only [Int.toNat_natCast, hj, id] at this
      exact of_decide_eq_true this
    · intro q
      refine List.all_eq_true.mpr fun x hx => ?_
      obtain ⟨b, _, rfl⟩ := List.mem_map.mp hx
      show (match js[b.toNat]? with
        | some j => decide (Rj js b.toNat j ≤ j.2.1)
        | none => true) = true
      cases e : js[b.toNat]? with
      | none => rfl
      | some j => exact decide_eq_true (q _ j e)
end
end Lw

set_option Elab.async false
set_option linter.all false
set_option maxRecDepth 100000
set_option maxHeartbeats 1000000
namespace Lw
open PySem L2 Gv Tk
/-- since when the standings are the same -/
def Still (js : List Job) (c t : Nat) (still : Int) : Prop := still = -1 ∨ ∃ s : Nat, still = s ∧ rep js c s ∧ s < t ∧ t ≤ s + c
def TimesR (js : List Job) (c : Nat) (r : PyData) : Prop := ∃ (E : Nat) (lg : List Int), LG js E lg ∧ (∀ u, u < E → ms js u = none) ∧ ((∃ m : Nat, r = dL id [dP2 PyData.int PyData.int ((m : Int), (E : Int)), dL PyData.int lg] ∧ ms js E = some m) ∨ (r = dL (dO (dL PyData.int)) [none, some lg] ∧ (E = 400 ∨ ∃ s, rep js c s ∧ E = s + c)))
theorem keptL_some {js : List Job} {c t : Nat} (hok : okAll js) (h : keptL (seen js c t) = st js t) : seen js c t = some (st js t) := by
  cases q : seen js c t with
  | none =>
    rw [q] at h
    have hx : (-1 : Int) ∈ st js t := by rw [← h]; exact List.mem_cons_self
    have := st_nl hok.r t _ hx
    omega
  | some z => rw [q] at h; exact congrArg some h
theorem times_ok {js : List Job} {c : Nat} (hok : okAll js) (hc : IsC js c) (h30 : c ≤ 30) : OutR (f_law_times js) (TimesR js c) (fun _ => False) := by
  have h5 := hok.2
  have hcp := hc.pos
  refine o_fin ?_
  unfold m_law_times
  refine o_bindR (o_eq (zeros_law h5) ?_)
  refine o_bindR (o_eq (zeros_law h5) ?_)
  refine o_bindR (o_eq (zeros_law h5) ?_)
  refine o_bindR (o_eq (common_law hok hc h30) ?_)
  refine o_lt (o_lt ?_)
  refine o_bindR (o_eq (rngR_nx (by omega)) ?_)
  refine o_bind ?_
  refine o_for (fun t (s : List Int × List Int × List Int × List Int × Int) => s.1 = st js t ∧ CA js t s.2.1 ∧ LG js t s.2.2.1 ∧ s.2.2.2.1 = keptL (seen js c t) ∧ Still js c t s.2.2.2.2 ∧ ∀ u, u < t → ms js u = none)
    ⟨rfl, .start js, .start js, rfl, .inl rfl, fun u h => absurd h (by omega)⟩ (fun t s b hb hs => ?_) fun s hs => ?_
  · obtain ⟨rfl, hk⟩ := rangeL_get0 (n := 400) hb
    obtain ⟨left, came, lg, kept, still⟩ := s
    obtain ⟨e1, hCA, hLG, e2, hSt, hno⟩ := hs
    replace e1 : left = st js t := e1
    replace e2 : kept = keptL (seen js c t) := e2
    replace hCA : CA js t came := hCA
    replace hLG : LG js t lg := hLG
    replace hSt : Still js c t still := hSt
    subst e1 e2
    -- the standings kept
    refine o_bind (Out.imp (N := fun (s16 : List Int × Int) => s16.1 = keptL (seen js c (t + 1)) ∧ Still js c (t + 1) s16.2) (T := TimesR js c) (B := fun _ => False) (C := fun _ => False) (E := fun _ => False) ?_ (fun s16 h16 => ?_) (fun _ q => q) (fun _ q => q.elim) (fun _ q => q.elim) fun _ q => q)
    · refine o_bindR (o_eq (modR_nx (by omega)) ?_)
      by_cases hm : t % c = 0
      · refine o_ite (fun _ => ?_) fun z => nomatch ((decide_eq_true hm).symm.trans (nat_mod.symm.trans z))
        refine o_ite (fun z => ?_) fun z => ?_
        · have z' : 0 ≤ still := of_decide_eq_true z
          refine o_rt ⟨t, lg, hLG, hno, .inr ⟨rfl, .inr ?_⟩⟩
          rcases hSt with q | ⟨s, q1, q2, q3, q4⟩
          · omega
          · refine ⟨s, q2, ?_⟩
            obtain ⟨a, ha⟩ := Nat.dvd_of_mod_eq_zero hm
            obtain ⟨b, hb2⟩ := Nat.dvd_of_mod_eq_zero q2.1
            have l1 : c * b < c * a := by omega
            have l2 : b < a := Nat.lt_of_mul_lt_mul_left l1
            have l3 : c * (b + 1) ≤ c * a := Nat.mul_le_mul_left c l2
            rw [Nat.mul_add, Nat.mul_one] at l3
            omega
        · have z' : ¬ 0 ≤ still := of_decide_eq_false z
          refine o_bind (Out.imp (N := fun (s18 : Int) => Still js c (t + 1) s18) (T := fun _ => False) (B := fun _ => False) (C := fun _ => False) (E := fun _ => False) ?_ (fun s18 h18 => ?_) (fun _ q => q.elim) (fun _ q => q.elim) (fun _ q => q.elim) fun _ q => q)
          · refine o_ite (fun w => ?_) fun w => ?_
            · have w' : keptL (seen js c t) = st js t := of_decide_eq_true w
              refine o_nx (.inr ⟨t, rfl, (rep_iff hcp hm).mpr (keptL_some hok w'), by omega, by omega⟩)
            · refine o_nx ?_
              rcases hSt with q | ⟨s, q1, _⟩
              · exact .inl q
              · omega
          · refine o_nx ⟨?_, h18⟩
            rw [seen_step, if_pos hm]
            rfl
      · refine o_ite (fun z => nomatch ((decide_eq_false hm).symm.trans (nat_mod.symm.trans z))) fun _ => ?_
        refine o_nx ⟨by rw [seen_step, if_neg hm], ?_⟩
        rcases hSt with q | ⟨s, q1, q2, q3, q4⟩
        · exact .inl q
        · refine .inr ⟨s, q1, q2, by omega, ?_⟩
          have : t ≠ s + c := fun e => hm (by rw [e, Nat.add_mod_right]; exact q2.1)
          omega
    obtain ⟨k1, k2⟩ := h16
    -- the jobs come
    refine o_bindR (o_eq (rngR_nx (by omega)) ?_)
    refine o_bind ?_
    refine o_for (fun k (s : List Int × List Int) => s = (comeL (js.take k) (st js t) t, cameU (js.take k) came t) ∧ missL (js.take k) (st js t) t = none) ⟨by rw [List.take_zero, comeL_nil, cameU_nil], by rw [List.take_zero, missL_nil]⟩ (fun k s b hb hs => ?_) fun s hs => ?_
    · obtain ⟨rfl, hk⟩ := rangeL_get0 hb
      obtain ⟨rfl, hm0⟩ := hs
      obtain ⟨j, hj⟩ : ∃ j, js[k]? = some j := ⟨_, List.getElem?_eq_getElem hk⟩
      obtain ⟨x, hx⟩ : ∃ x, (st js t)[k]? = some x := ⟨_, List.getElem?_eq_getElem (by rw [st_len]; exact hk)⟩
      obtain ⟨a, ha⟩ := hCA.get hj
      have hx2 := (comeL_get (js.take k) (st js t) t k (List.length_take_le k js)).trans hx
      have hlen : k < (comeL (js.take k) (st js t) t).length := by rw [comeL_len, st_len]; exact hk
      have hlen2 : k < (cameU (js.take k) came t).length := by rw [cameU_len, hCA.1]; exact hk
      have x0 : 0 ≤ x := st_nl hok.r t x (List.mem_of_getElem? hx)
      have e1 := come_succ (t := t) hj hx
      have e2 := miss_succ (t := t) hj hx
      have e3 := cameU_succ (t := t) hj ha
      rw [hm0] at e2
      refine o_bindR (o_eq (idx_nat hj) ?_)
      refine o_bindR (o_eq (modR_nx (hok.p _ (List.mem_of_getElem? hj))) ?_)
      refine o_bindR (o_eq (idx_nat hj) ?_)
      refine o_ite (fun z => ?_) fun z => ?_
      · have z' : (t : Int) % j.2.1 = j.2.2 := of_decide_eq_true z
        rw [if_pos z'] at e1 e3
        refine o_bindR (o_eq (idx_nat hx2) ?_)
        refine o_ite (fun y => ?_) fun y => ?_
        · have y' : 0 < x := of_decide_eq_true y
          replace e2 : missL (js.take (k + 1)) (st js t) t = (if (t : Int) % j.2.1 = j.2.2 ∧ 0 < x then some k else none) := e2
          rw [if_pos ⟨z', y'⟩] at e2
          exact o_rt ⟨t, lg, hLG, hno, .inl ⟨k, rfl, miss_take e2⟩⟩
        · have y' : ¬ 0 < x := of_decide_eq_false y
          have hx0 : x = 0 := by omega
          replace e2 : missL (js.take (k + 1)) (st js t) t = (if (t : Int) % j.2.1 = j.2.2 ∧ 0 < x then some k else none) := e2
          rw [if_neg (fun w => y' w.2)] at e2
          rw [hx0, Int.zero_add] at e1
          refine o_bindR (o_eq (idx_nat hj) ?_)
          refine o_bindR (o_eq (setR_nat hlen) ?_)
          refine o_bindR (o_eq (setR_nat hlen2) ?_)
          exact o_nx ⟨by rw [e1, e3], e2⟩
      · have z' : ¬ (t : Int) % j.2.1 = j.2.2 := of_decide_eq_false z
        replace e2 : missL (js.take (k + 1)) (st js t) t = (if (t : Int) % j.2.1 = j.2.2 ∧ 0 < x then some k else none) := e2
        rw [if_neg z'] at e1 e3
        rw [if_neg (fun w => z' w.1)] at e2
        exact o_nx ⟨by rw [e1, e3], e2⟩
    · rw [rangeL_len] at hs
      have e0 : ((js.length : Int) - 0).toNat = js.length := by omega
      rw [e0, List.take_length] at hs
      obtain ⟨rfl, hms⟩ := hs
      replace hms : ms js t = none := hms
      have hno' : ∀ u, u < t + 1 → ms js u = none := fun u hu => by
        rcases Nat.lt_succ_iff_lt_or_eq.mp hu with q | rfl
        · exact hno u q
        · exact hms
      have hCA' := hCA.next hok.1
      have hLl : (comeL js (st js t) t).length = js.length := by rw [comeL_len, st_len]
      -- one rung
      refine o_bindR (o_eq (rngR_nx (by omega)) ?_)
      refine o_bind ?_
      refine o_for (fun k (s : List Int × List Int × Bool) => (s = (comeL js (st js t) t, lg, false) ∧ ∀ (i : Nat) (y : Int), i < k → (comeL js (st js t) t)[i]? = some y → y ≤ 0) ∨ (s.1 = st js (t + 1) ∧ LG js (t + 1) s.2.1 ∧ s.2.2 = true)) (.inl ⟨rfl, fun i y h => absurd h (by omega)⟩) (fun k s b hb hs => ?_) fun s hs => ?_
      · obtain ⟨rfl, hk⟩ := rangeL_get0 hb
        obtain ⟨j, hj⟩ : ∃ j, js[k]? = some j := ⟨_, List.getElem?_eq_getElem hk⟩
        rcases hs with ⟨rfl, hs⟩ | ⟨hs1, hs2, hs3⟩
        · obtain ⟨y, hy⟩ : ∃ y, (comeL js (st js t) t)[k]? = some y := ⟨_, List.getElem?_eq_getElem (by rw [hLl]; exact hk)⟩
          refine o_bind (o_bindR (o_eq (idx_nat hy) ?_))
          refine o_ite (fun z => o_nx ?_) fun z => o_nx ?_
          · have z' : 0 < y := of_decide_eq_true z
            obtain ⟨w1, w2⟩ := who_at hy z' hs
            have hst : (comeL js (st js t) t).set k (y - 1) = st js (t + 1) := by rw [← w2]; rfl
            have hkl : k < (comeL js (st js t) t).length := by rw [hLl]; exact hk
            have hg1 : (st js (t + 1))[k]? = some (y - 1) := by rw [← hst]; exact List.getElem?_set_self hkl
            refine o_ite (fun _ => ?_) fun q => nomatch q
            refine o_bindR (o_eq (idx_nat hy) ?_)
            refine o_bindR (o_eq (setR_nat hkl) ?_)
            rw [hst]
            refine o_bindR (o_eq (idx_nat hg1) ?_)
            refine o_ite (fun q => ?_) fun q => ?_
            · have q' : y - 1 = 0 := of_decide_eq_true q
              rw [q'] at hg1
              obtain ⟨g, g1, _⟩ := hLG.2 k j hj
              obtain ⟨a, a1, _⟩ := hCA.now hok.1 hj hy z'
              have hgl : k < lg.length := (List.getElem?_eq_some_iff.mp g1).1
              refine o_bindR (o_eq (idx_nat g1) ?_)
              refine o_bindR (o_eq (idx_nat a1) ?_)
              refine o_bindR (o_eq (setR_nat hgl) ?_)
              refine o_nx (.inr ⟨rfl, ?_, rfl⟩)
              exact hLG.done hok.1 hCA w1 hg1 g1 a1
            · have q' : ¬ y - 1 = 0 := of_decide_eq_false q
              exact o_nx (.inr ⟨rfl, hLG.not w1 (by rw [hg1]; exact fun w => q' (Option.some.inj w)), rfl⟩)
          · have z' : ¬ 0 < y := of_decide_eq_false z
            refine o_ite (fun q => nomatch q) fun _ => o_nx (.inl ⟨rfl, fun i y2 hi hy2 => ?_⟩)
            rcases Nat.lt_succ_iff_lt_or_eq.mp hi with hi | rfl
            · exact hs i y2 hi hy2
            · rw [hy] at hy2
              cases hy2
              omega
        · obtain ⟨l1, l2, l3⟩ := s
          replace hs1 : l1 = st js (t + 1) := hs1
          replace hs3 : l3 = true := hs3
          subst hs1 hs3
          obtain ⟨y, hy⟩ : ∃ y, (st js (t + 1))[k]? = some y := ⟨_, List.getElem?_eq_getElem (by rw [st_len]; exact hk)⟩
          refine o_bind (o_bindR (o_eq (idx_nat hy) ?_))
          refine o_ite (fun z => o_nx ?_) fun z => o_nx ?_
          · exact o_ite (fun q => nomatch q) fun _ => o_nx (.inr ⟨rfl, hs2, rfl⟩)
          · exact o_ite (fun q => nomatch q) fun _ => o_nx (.inr ⟨rfl, hs2, rfl⟩)
      · rw [rangeL_len] at hs
        have e0 : ((js.length : Int) - 0).toNat = js.length := by omega
        rw [e0] at hs
        rcases hs with ⟨rfl, hs⟩ | ⟨hs1, hs2, hs3⟩
        · obtain ⟨w1, w2⟩ := who_none (xs := comeL js (st js t) t) fun i y hy => hs i y (by have := (List.getElem?_eq_some_iff.mp hy).1; rw [hLl] at this; exact this) hy
          exact o_nx ⟨w2.symm, hCA', hLG.none w1, k1, k2, hno'⟩
        · exact o_nx ⟨hs1, hCA', hs2, k1, k2, hno'⟩
  · rw [rangeL_len] at hs
    obtain ⟨e1, hCA, hLG, e2, hSt, hno⟩ := hs
    exact o_rt ⟨400, s.2.2.1, hLG, hno, .inr ⟨rfl, .inl rfl⟩⟩
end Lw

set_option Elab.async false
set_option linter.all false
set_option maxRecDepth 100000
set_option maxHeartbeats 1000000
namespace Lw
open PySem L2 Gv Tk
theorem rows_fit_ok {js : List Job} (hok : okAll js) : f_law_rows_fit js = .nx true := by
  have h5 := hok.2
  have hd := jsd_t js
  obtain ⟨r, e, q⟩ := o_val (m := f_law_rows_fit js) (N := fun r => r = true) (by
    refine o_fin ?_
    unfold m_law_rows_fit
    refine o_bindR (o_eq (rngR_nx (by omega)) ?_)
    refine o_bind ?_
    refine o_for (fun k (s : Bool) => s = true ↔ ∀ (i : Nat) (j : Job), i < k → js[i]? = some j → Rj js i j ≤ j.2.1) ⟨fun _ i j h => absurd h (by omega), fun _ => rfl⟩ (fun k s b hb hs => ?_) fun s hs => ?_
    · obtain ⟨rfl, hk⟩ := rangeL_get0 hb
      obtain ⟨j, hj⟩ : ∃ j, js[k]? = some j := ⟨_, List.getElem?_eq_getElem hk⟩
      refine o_bindR (o_eq (rows_law hok hj) ?_)
      refine o_bindR (o_eq (rows_pkg hd hok hj) ?_)
      refine o_ite (fun z => absurd z (by simp [isA, dT])) fun _ => ?_
      refine o_bind (o_for (fun _ _ => True) trivial (fun _ s b _ _ => ?_) fun _ _ => ?_)
      · refine o_bindR (o_eq (a := true) rfl ?_)
        exact o_ite (fun z => nomatch z) fun _ => trivial
      refine o_bindR (o_eq (idx_lastI (rowsJ_last js k j).1) ?_)
      refine o_bindR (o_eq (response_pkg hd hok hj) ?_)
      refine o_bindR (o_eq (idx_nat hj) ?_)
      refine o_ite (fun z => ?_) fun z => ?_
      · have z' : j.2.1 < Rj js k j := of_decide_eq_true z
        rw [show (if Rj js k j ≤ j.2.1 then some (Rj js k j) else none) = none from if_neg (by omega)]
        refine o_ite (fun z => nomatch z) fun _ => o_nx ?_
        refine ⟨fun w => (nomatch w), fun w => ?_⟩
        have := w k j (by omega) hj
        omega
      · have z' : ¬ j.2.1 < Rj js k j := of_decide_eq_false z
        rw [show (if Rj js k j ≤ j.2.1 then some (Rj js k j) else none) = some (Rj js k j) from if_pos (by omega)]
        refine o_bind ?_
        refine o_bindR (o_eq (a := true) rfl ?_)
        refine o_ite (fun z => nomatch z) fun _ => o_nx ?_
        refine o_ite (fun z => absurd z (by simp)) fun _ => o_nx ?_
        refine ⟨fun w i j' hi hj' => ?_, fun w => hs.mpr fun i j' hi hj' => w i j' (by omega) hj'⟩
        rcases Nat.lt_succ_iff_lt_or_eq.mp hi with hi | rfl
        · exact hs.mp w i j' hi hj'
        · rw [hj] at hj'
          cases hj'
          omega
    · rw [rangeL_len] at hs
      have e0 : ((js.length : Int) - 0).toNat = js.length := by omega
      rw [e0] at hs
      obtain ⟨b, e1, e2⟩ := never_pkg hd hok
      refine o_bindR (o_eq e1 ?_)
      refine o_rt ?_
      have : b = s := by
        have w : s = true ↔ Well js := hs.trans ⟨fun q i j hj => q i j (List.getElem?_eq_some_iff.mp hj).1 hj, fun q i j _ hj => q i j hj⟩
        rcases b <;> rcases s <;> simp_all
      subst this
      show (true && decide (b = b)) = true
      simp)
  rw [e, q]
/-! ### other offsets -/
def atO : List Job → List Int → List Job
  | j :: js, o :: os => (j.1, j.2.1, o) :: atO js os
  | _, _ => []
theorem atO_len : ∀ {js : List Job} {os : List Int}, os.length = js.length → (atO js os).length = js.length
  | [], [], _ => rfl
  | j :: js, o :: os, h => by unfold atO; rw [List.length_cons, atO_len (by simpa using h), List.length_cons]
  | [], _ :: _, h => by simp at h
  | _ :: _, [], h => by simp at h
theorem atO_get : ∀ {js : List Job} {os : List Int} {k : Nat} {j : Job} {o : Int}, js[k]? = some j → os[k]? = some o → (atO js os)[k]? = some (j.1, j.2.1, o)
  | [], _, _, _, _, h, _ => by simp at h
  | _ :: _, [], _, _, _, _, h => by simp at h
  | j0 :: js, o0 :: os, 0, j, o, h1, h2 => by
    simp at h1 h2
    subst h1 h2
    rfl
  | j0 :: js, o0 :: os, k + 1, j, o, h1, h2 => by
    rw [List.getElem?_cons_succ] at h1 h2
    unfold atO
    rw [List.getElem?_cons_succ]
    exact atO_get h1 h2
theorem atO_sk : ∀ {js : List Job} {os : List Int}, os.length = js.length → sk (atO js os) = sk js
  | [], [], _ => rfl
  | j :: js, o :: os, h => by
    have := atO_sk (js := js) (os := os) (by simpa using h)
    unfold sk at this ⊢
    unfold atO
    rw [List.map_cons, List.map_cons, this]
  | [], _ :: _, h => by simp at h
  | _ :: _, [], h => by simp at h
/-- offsets that fit -/
def okC (js : List Job) (c : List Int) : Prop := c.length = js.length ∧ ∀ (i : Nat) (j : Job) (o : Int), js[i]? = some j → c[i]? = some o → 0 ≤ o ∧ o < j.2.1
theorem atO_ok {js : List Job} {c : List Int} (h : okAll js) (hc : okC js c) : okAll (atO js c) := by
  refine ⟨fun j hj => ?_, by rw [atO_len hc.1]; exact h.2⟩
  obtain ⟨k, hk⟩ := List.getElem?_of_mem hj
  have hl : k < (atO js c).length := (List.getElem?_eq_some_iff.mp hk).1
  rw [atO_len hc.1] at hl
  obtain ⟨j0, h0⟩ : ∃ j, js[k]? = some j := ⟨_, List.getElem?_eq_getElem hl⟩
  obtain ⟨o, ho⟩ : ∃ o, c[k]? = some o := ⟨_, List.getElem?_eq_getElem (by rw [hc.1]; exact hl)⟩
  rw [atO_get h0 ho] at hk
  cases hk
  obtain ⟨o1, o2, o3, o4, o5, o6⟩ := h.1 j0 (List.mem_of_getElem? h0)
  obtain ⟨a, b⟩ := hc.2 k j0 o h0 ho
  exact ⟨o1, o2, o3, o4, a, b⟩
theorem per_sk : ∀ {js js' : List Job} {c : Nat}, sk js = sk js' → Per js c → Per js' c
  | _, [], _, _, _ => fun j hj => (nomatch hj)
  | a :: js, b :: js', c, h, hp => by
    unfold sk at h
    simp only [List.map_cons, List.cons.injEq, Prod.mk.injEq] at h
    have ih := per_sk (c := c) (js := js) (js' := js') h.2 fun u hu => hp u (List.mem_cons_of_mem _ hu)
    intro u hu
    rcases List.mem_cons.mp hu with rfl | hu
    · have := hp a List.mem_cons_self
      rw [h.1.2] at this
      exact this
    · exact ih u hu
  | [], _ :: _, _, h, _ => by simp [sk] at h
theorem isC_sk {js js' : List Job} {c : Nat} (h : sk js = sk js') (hc : IsC js c) : IsC js' c := ⟨hc.pos, per_sk h hc.per, fun m hm => hc.min m (per_sk h.symm hm)⟩
theorem sum_sk : ∀ {js js' : List Job}, sk js = sk js' → (js.map (·.1)).sum = (js'.map (·.1)).sum
  | [], [], _ => rfl
  | a :: js, b :: js', h => by
    unfold sk at h
    simp only [List.map_cons, List.cons.injEq, Prod.mk.injEq] at h
    have ih := sum_sk (js := js) (js' := js') h.2
    rw [List.map_cons, List.map_cons, List.sum_cons, List.sum_cons, ih, h.1.1]
  | [], _ :: _, h => by simp [sk] at h
  | _ :: _, [], h => by simp [sk] at h
theorem well_sk {js js' : List Job} (h : sk js = sk js') (hw : Well js) : Well js' := fun i j' hj' => by
  have hl : js.length = js'.length := by
    have := congrArg List.length h
    unfold sk at this
    simpa using this
  have hi : i < js'.length := (List.getElem?_eq_some_iff.mp hj').1
  obtain ⟨j, hj⟩ : ∃ j, js[i]? = some j := ⟨_, List.getElem?_eq_getElem (by omega)⟩
  obtain ⟨e1, e2⟩ := sk_at h hj hj'
  rw [← Rj_sk h e1 e2, ← e2]
  exact hw i j hj
theorem law_at_ok {js : List Job} {os : List Int} (h5 : js.length ≤ 5) (hl : os.length = js.length) : f_law_at (js, os) = .nx (atO js os) := by
  obtain ⟨r, e, q⟩ := o_val (m := f_law_at (js, os)) (N := fun r => r = atO js os) (by
    refine o_fin ?_
    unfold m_law_at
    refine o_bindR (o_eq (rngR_nx (by show _ ∧ _ ∧ _ ∧ (js.length : Int) ≤ _; omega)) ?_)
    refine o_bindR (o_lcR (fun b => ((atO js os)[b.toNat]?).getD (0, 0, 0)) (fun b hb => ?_) (by rw [rangeL_len]; show ((js.length : Int) - 0).toNat ≤ _; omega) ?_)
    · obtain ⟨b1, b2⟩ := mem_rangeL.mp hb
      replace b2 : b < (js.length : Int) := b2
      obtain ⟨k, rfl⟩ : ∃ k : Nat, b = (k : Int) := ⟨b.toNat, by omega⟩
      obtain ⟨j, hj⟩ : ∃ j, js[k]? = some j := ⟨_, List.getElem?_eq_getElem (by omega)⟩
      obtain ⟨o, ho⟩ : ∃ o, os[k]? = some o := ⟨_, List.getElem?_eq_getElem (by omega)⟩
      refine o_r (o_bindR (o_eq (idx_nat hj) ?_))
      refine o_bindR (o_eq (idx_nat hj) ?_)
      refine o_bindR (o_eq (idx_nat ho) ?_)
      refine o_nx ?_
      rw [Int.toNat_natCast, atO_get hj ho]
      rfl
    · refine o_rt ?_
      show (rangeL 0 (js.length : Int)).map _ = _
      apply List.ext_getElem?
      intro k
      rw [List.getElem?_map]
      by_cases hk : k < js.length
      · have e1 : (rangeL 0 (js.length : Int))[k]? = some (k : Int) := by
          cases q : (rangeL 0 (js.length : Int))[k]? with
          | none =>
            have := List.getElem?_eq_none_iff.mp q
            rw [rangeL_len] at this
            omega
          | some x => rw [(rangeL_get0 q).1]
        have hk2 : k < (atO js os).length := by rw [atO_len hl]; exact hk
        rw [e1, List.getElem?_eq_getElem hk2]
        show some (((atO js os)[((k : Nat) : Int).toNat]?).getD (0, 0, 0)) = _
        rw [Int.toNat_natCast, List.getElem?_eq_getElem hk2]
        rfl
      · rw [List.getElem?_eq_none (by rw [rangeL_len]; omega), List.getElem?_eq_none (by rw [atO_len hl]; omega)]
        rfl)
  rw [e, q]
def zo (js : List Job) : List Int := js.map fun _ => 0
theorem atO_zero : ∀ {js : List Job}, (∀ j, j ∈ js → j.2.2 = 0) → atO js (zo js) = js
  | [], _ => rfl
  | j :: js, h => by
    have a := h j List.mem_cons_self
    have ih := atO_zero (js := js) fun u hu => h u (List.mem_cons_of_mem _ hu)
    show (j.1, j.2.1, (0 : Int)) :: atO js (zo js) = j :: js
    rw [ih, ← a]
theorem offsets_ok {js : List Job} (hok : okAll js) (h3 : js.length ≤ 3) (h6 : ∀ j, j ∈ js → j.2.1 ≤ 6) : OutR (f_law_offsets js) (fun cs => (∀ c, c ∈ cs → okC js c) ∧ zo js ∈ cs) (fun _ => False) := by
  refine o_fin ?_
  unfold m_law_offsets
  refine o_lt (o_bind ?_)
  refine o_for (fun k (s : List (List Int)) => (∀ c, c ∈ s → okC (js.take k) c) ∧ zo (js.take k) ∈ s ∧ s.length ≤ 6 ^ k) ⟨fun c hc => ?_, by simp [zo], by simp⟩ (fun k s b hb hs => ?_) fun s hs => ?_
  · have : c = [] := by simpa using hc
    subst this
    exact ⟨rfl, fun i j o h => by simp at h⟩
  · obtain ⟨h1, h2, h4⟩ := hs
    have hk : k < js.length := (List.getElem?_eq_some_iff.mp hb).1
    have hbm := List.mem_of_getElem? hb
    obtain ⟨o1, o2, o3, o4, o5, o6⟩ := hok.1 b hbm
    have b6 := h6 b hbm
    have htk : js.take (k + 1) = js.take k ++ [b] := by rw [List.take_succ, hb]; rfl
    have hk6 : (6 : Nat) ^ k ≤ 216 := by
      have : (6 : Nat) ^ k ≤ 6 ^ 3 := Nat.pow_le_pow_right (by omega) (by omega)
      simpa using this
    have hzo : zo (js.take (k + 1)) = zo (js.take k) ++ [0] := by
      rw [htk]
      unfold zo
      rw [List.map_append]
      rfl
    refine o_lt (o_bind ?_)
    refine o_for (fun m (s' : List (List Int)) => (∀ c, c ∈ s' → okC (js.take (k + 1)) c) ∧ (zo (js.take k) ∈ s.take m → zo (js.take (k + 1)) ∈ s') ∧ s'.length ≤ 6 * m) ⟨fun c hc => (nomatch hc), fun z => by simp at z, by simp⟩ (fun m s' c hc hs' => ?_) fun s' hs' => ?_
    · obtain ⟨g1, g2, g3⟩ := hs'
      have hm : m < s.length := (List.getElem?_eq_some_iff.mp hc).1
      obtain ⟨cl, co⟩ := h1 c (List.mem_of_getElem? hc)
      refine o_bindR (o_eq (rngR_nx (by omega)) ?_)
      refine o_bind ?_
      refine o_for (fun n (s2 : List (List Int)) => (∀ c, c ∈ s2 → okC (js.take (k + 1)) c) ∧ (zo (js.take k) ∈ s.take m → zo (js.take (k + 1)) ∈ s2) ∧ (c = zo (js.take k) → 1 ≤ n → zo (js.take (k + 1)) ∈ s2) ∧ s2.length ≤ 6 * m + n) ⟨g1, g2, fun _ h => absurd h (by omega), g3⟩ (fun n s2 o ho hs2 => ?_) fun s2 hs2 => ?_
      · obtain ⟨q1, q2, q3, q4⟩ := hs2
        have ho1 := rangeL_get ho
        have ho2 : n < 6 := by
          have := (List.getElem?_eq_some_iff.mp ho).1
          rw [rangeL_len] at this
          omega
        have ho3 : 0 ≤ o ∧ o < b.2.1 := mem_rangeL.mp (List.mem_of_getElem? ho)
        have cl' : c.length = k := by rw [cl]; simp; omega
        refine o_bindR (o_eq (catR_nx (by simp; omega)) ?_)
        refine o_bindR (o_eq (appR_nx (by omega)) ?_)
        refine o_nx ⟨fun c2 hc2 => ?_, fun z => List.mem_append_left _ (q2 z), fun e _ => ?_, by simp; omega⟩
        · rcases List.mem_append.mp hc2 with hc2 | hc2
          · exact q1 c2 hc2
          · have : c2 = c ++ [o] := by simpa using hc2
            subst this
            refine ⟨by rw [htk, List.length_append, List.length_append, cl]; rfl, fun i j o' hj ho' => ?_⟩
            rw [htk] at hj
            by_cases hi : i < k
            · rw [List.getElem?_append_left (by rw [← cl, cl']; exact hi)] at hj
              rw [List.getElem?_append_left (by rw [cl']; exact hi)] at ho'
              exact co i j o' hj ho'
            · rw [List.getElem?_append_right (by rw [← cl, cl']; omega)] at hj
              rw [List.getElem?_append_right (by rw [cl']; omega)] at ho'
              rw [← cl] at hj
              have i0 : i - c.length = 0 := by
                have := (List.getElem?_eq_some_iff.mp ho').1
                simpa using this
              rw [i0] at hj ho'
              cases hj
              cases ho'
              exact ho3
        · rcases Nat.eq_zero_or_pos n with rfl | hn
          · have : o = 0 := by omega
            subst this
            rw [hzo, ← e]
            exact List.mem_append_right _ (by simp)
          · exact List.mem_append_left _ (q3 e hn)
      · obtain ⟨q1, q2, q3, q4⟩ := hs2
        rw [rangeL_len] at q3 q4
        refine o_nx ⟨q1, fun z => ?_, by omega⟩
        rw [List.take_succ, hc] at z
        rcases List.mem_append.mp z with z | z
        · exact q2 z
        · have : zo (js.take k) = c := by simpa using z
          exact q3 this.symm (by omega)
    · obtain ⟨g1, g2, g3⟩ := hs'
      rw [List.take_length] at g2
      refine o_nx ⟨g1, g2 h2, ?_⟩
      rw [Nat.pow_succ]
      omega
  · obtain ⟨h1, h2, _⟩ := hs
    rw [List.take_length] at h1 h2
    exact o_rt ⟨h1, h2⟩
end Lw

set_option Elab.async false
set_option linter.all false
set_option maxRecDepth 100000
set_option maxHeartbeats 1000000
namespace Lw
open PySem L2 Gv Tk
abbrev eWord (w : Str) : Er := ⟨"BadNumber", [("word", (PyData.str w))]⟩
abbrev eMany : Er := ⟨"TooMany", [("limit", (PyData.int (5 : Int)))]⟩
theorem o_ers {α : Type} {m : R α} {e : Er} (h : OutR m (fun _ => False) (fun x => x = e)) : m = .er e := by
  cases m with
  | nx a => exact h.elim
  | rt r => exact r.elim
  | bk r => exact r.elim
  | ct r => exact r.elim
  | er x => rw [show x = e from h]
  | stuck => exact h.elim
def wrongs : List PyData := [((dP3 PyData.int PyData.int PyData.int) ((0 : Int), (4 : Int), (0 : Int))), ((dP3 PyData.int PyData.int PyData.int) ((13 : Int), (24 : Int), (0 : Int))), ((dP3 PyData.int PyData.int PyData.int) ((1 : Int), (25 : Int), (0 : Int))), ((dP3 PyData.int PyData.int PyData.int) ((1 : Int), (0 : Int), (0 : Int))), ((dP3 PyData.int PyData.int PyData.int) ((1 : Int), (4 : Int), (4 : Int))), ((dP3 PyData.int PyData.int PyData.int) ((1 : Int), (4 : Int), (-(1 : Int)))), ((dP2 PyData.int PyData.int) ((1 : Int), (4 : Int))), (PyData.int (3 : Int))]
abbrev eJobs : Er := eWord "jobs"
theorem check_bad {A B : List PyData} {x : PyData} (hA : ∀ y, y ∈ A → ∃ j, JD y j ∧ okJ j) (hx : x ∈ wrongs) (hl : (A ++ x :: B).length ≤ 5) : f_check_jobs (.tuple (A ++ x :: B)) = .er eJobs := by
  refine o_ers ?_
  refine o_fin ?_
  unfold m_check_jobs
  refine o_ite (fun z => nomatch z) fun _ => ?_
  refine o_bindR (o_eq rfl ?_)
  refine o_ite (fun z => absurd (of_decide_eq_true z) (by omega)) fun _ => ?_
  refine o_bindR (o_eq rfl (o_bind ?_))
  refine o_for (fun k _ => k ≤ A.length) (Nat.zero_le _) (fun i s y hy hi => ?_) fun s hs => ?_
  · by_cases he : i = A.length
    · subst he
      rw [List.getElem?_append_right (Nat.le_refl _), Nat.sub_self] at hy
      cases hy
      unfold wrongs at hx
      simp only [List.mem_cons, List.not_mem_nil, or_false] at hx
      rcases hx with rfl | rfl | rfl | rfl | rfl | rfl | rfl | rfl <;> exact (rfl : (eJobs : Er) = eJobs)
    · have hlt : i < A.length := by omega
      rw [List.getElem?_append_left hlt] at hy
      obtain ⟨j, hx2, h1, h2, h3, h4, h5, h6⟩ := hA y (List.mem_of_getElem? hy)
      rw [hx2.seq, hx2.len, hx2.a0, hx2.a1, hx2.a2]
      simp [whole_in_ok (x := j.1) (lo := 1) (hi := 12) ⟨h1, h2⟩, whole_in_ok (x := j.2.1) (lo := 1) (hi := 24) ⟨h3, h4⟩, intD_int, whole_in_ok (x := j.2.2) (lo := 0) (hi := j.2.1 - 1) ⟨h5, by omega⟩]
      exact hlt
  · rw [List.length_append, List.length_cons] at hs
    omega
theorem check_many {ds : List PyData} (h : 5 < ds.length) : f_check_jobs (.tuple ds) = .er eMany := by
  refine o_ers ?_
  refine o_fin ?_
  unfold m_check_jobs
  refine o_ite (fun z => nomatch z) fun _ => ?_
  refine o_bindR (o_eq rfl ?_)
  refine o_ite (fun _ => rfl) fun z => absurd (of_decide_eq_false z) (by omega)
theorem check_seven : f_check_jobs (.int 7) = .er eJobs := rfl
theorem try_er {ρ lam α β : Type} {e : Er} {f : α → O ρ lam β} {h : Er → O ρ lam β} : tryO (bindR (.er e) f) h = h e := rfl
theorem five : strI 5 = ("5" : Str) := by decide +kernel
theorem place_bad {d : PyData} {ds : List PyData} {js : List Job} {p : Int} (h : JsD d ds js) (hp : ¬ (0 ≤ p ∧ p < js.length)) : f_check_job_place (d, p) = .er (eWord "place") := by
  unfold f_check_job_place m_check_job_place
  rw [h.lenD]
  simp only [bindR_nx]
  rw [whole_in]
  have : (decide (0 ≤ p) && decide (p ≤ (js.length : Int) - 1)) = false := by
    rw [← Bool.not_eq_true, Bool.and_eq_true, decide_eq_true_eq, decide_eq_true_eq]
    omega
  rw [this]
  rfl
theorem clo_word {w : Str} {ρ lam : Type} {h : Er → O ρ lam Str} : clO (ρ := ρ) (lam := lam) sub_BadNumber (fun x2 => bindR (fldR x2 "BadNumber" "word") fun t5 =>
bindR (strD t5) fun t6 =>
.nx t6) h (eWord w) = .nx w := by simp [clO, sub_BadNumber, noEr, fldR, strD, List.lookup]
theorem rows_check {d : PyData} {p : Int} {e : Er} (h : f_check_jobs d = .er e) : f_rows_of_response (d, p) = .er e := by
  unfold f_rows_of_response m_rows_of_response
  rw [h]
  rfl
theorem rows_place {d : PyData} {ds : List PyData} {js : List Job} {p : Int} (hd : JsD d ds js) (h : okAll js) (hp : ¬ (0 ≤ p ∧ p < js.length)) : f_rows_of_response (d, p) = .er (eWord "place") := by
  unfold f_rows_of_response m_rows_of_response
  rw [check_ok hd h.1 h.2, place_bad hd hp]
  rfl
theorem response_er {d : PyData} {p : Int} {e : Er} (h : f_rows_of_response (d, p) = .er e) : f_response (d, p) = .er e := by
  unfold f_response m_response
  rw [h]
  rfl
theorem never_check {d : PyData} {e : Er} (h : f_check_jobs d = .er e) : f_never_misses d = .er e := by
  unfold f_never_misses m_never_misses
  rw [h]
  rfl
abbrev cloR (e : Er) : O Str Empty Str := clO sub_BadNumber (fun x2 => bindR (fldR x2 "BadNumber" "word") fun t7 =>
bindR (strD t7) fun t8 =>
.nx t8) (clO sub_TooMany (fun x2 => bindR (fldR x2 "TooMany" "limit") fun t9 =>
bindR (intD t9) fun t11 =>
bindR (strR t11) fun t10 =>
.nx t10) (fun x => .er x)) e
theorem refused_er {d : PyData} {w : Int} {e : Er} {t : Str} (ht : cloR e = .nx t) (h : (w = 0 ∧ f_response (d, 9) = .er e) ∨ (w = 1 ∧ f_rows_of_response (d, -1) = .er e) ∨ (w = 2 ∧ f_never_misses d = .er e)) : f_law_refused (w, d) = .nx t := by
  unfold f_law_refused m_law_refused
  rw [lt_eq]
  rcases h with ⟨rfl, h⟩ | ⟨rfl, h⟩ | ⟨rfl, h⟩
  · rw [if_pos (show decide ((0 : Int) = 0) = true by decide), h, try_er]
    show fin ((cloR e).bind fun s3 => .rt s3) (fun z : Empty => z.elim) = _
    rw [ht]
    rfl
  · rw [if_neg (show ¬ decide ((1 : Int) = 0) = true by decide), if_pos (show decide ((1 : Int) = 1) = true by decide), h, try_er]
    show fin ((cloR e).bind fun s3 => .rt s3) (fun z : Empty => z.elim) = _
    rw [ht]
    rfl
  · rw [if_neg (show ¬ decide ((2 : Int) = 0) = true by decide), if_neg (show ¬ decide ((2 : Int) = 1) = true by decide), h, try_er]
    show fin ((cloR e).bind fun s3 => .rt s3) (fun z : Empty => z.elim) = _
    rw [ht]
    rfl
theorem clo_many : cloR eMany = .nx "5" := by
  have n1 : ¬ (("TooMany" : Str) = "BadNumber") := by decide
  have s5 : strR 5 = .nx ("5" : Str) := by unfold strR; rw [five]; exact gd_true (by decide)
  simp [clO, sub_BadNumber, sub_TooMany, noEr, fldR, intD, List.lookup, n1, s5]
theorem refused_check {d : PyData} {w : Int} {e : Er} {t : Str} (hw : w = 0 ∨ w = 1 ∨ w = 2) (ht : cloR e = .nx t) (h : f_check_jobs d = .er e) : f_law_refused (w, d) = .nx t := by
  refine refused_er ht ?_
  rcases hw with rfl | rfl | rfl
  · exact .inl ⟨rfl, response_er (rows_check h)⟩
  · exact .inr (.inl ⟨rfl, rows_check h⟩)
  · exact .inr (.inr ⟨rfl, never_check h⟩)
def toldW (w : Int) : Str := if w = 2 then "" else "place"
theorem refused_place {d : PyData} {ds : List PyData} {js : List Job} {w : Int} (hw : w = 0 ∨ w = 1 ∨ w = 2) (hd : JsD d ds js) (h : okAll js) : f_law_refused (w, d) = .nx (toldW w) := by
  have h5 := h.2
  rcases hw with rfl | rfl | rfl
  · exact refused_er clo_word (.inl ⟨rfl, response_er (rows_place hd h (by omega))⟩)
  · exact refused_er clo_word (.inr (.inl ⟨rfl, rows_place hd h (by omega)⟩))
  · obtain ⟨b, hb, _⟩ := never_pkg hd h
    unfold f_law_refused m_law_refused
    rw [lt_eq, if_neg (show ¬ decide ((2 : Int) = 0) = true by decide), if_neg (show ¬ decide ((2 : Int) = 1) = true by decide), hb]
    rfl
theorem words_eq : eqR ((dL PyData.str) ((rangeL 0 3).map toldW)) ((dL PyData.str) ([("place" : Str), ("place" : Str), ("" : Str)])) = .nx true := by
  unfold eqR
  rw [show PyData.eqv ((dL PyData.str) ((rangeL 0 3).map toldW)) ((dL PyData.str) ([("place" : Str), ("place" : Str), ("" : Str)])) = true by decide +kernel]
  exact gd_true (by decide +kernel)
theorem fit_ok {nums : List Int} {js : List Job} (hn : Nn nums) (h : okAll js) (h1 : 1 ≤ js.length) : OutR (f_law_refusals_fit (nums, js)) (fun r => r.1 = true ∧ Nn r.2) (fun _ => False) := by
  have h5 := h.2
  have hd := jsd_t js
  refine o_fin ?_
  unfold m_law_refusals_fit
  refine o_bindR ((draw_ok hn (show 0 < (js.length : Int) by omega)).imp (fun r1 q => ?_) fun _ q => q)
  obtain ⟨p, nums2⟩ := r1
  obtain ⟨q1, q2, q3⟩ := q
  obtain ⟨k, rfl⟩ : ∃ k : Nat, p = (k : Int) := ⟨p.toNat, by have : 0 ≤ p := q1; omega⟩
  have hk : k < js.length := by have : (k : Int) < (js.length : Int) := q2; omega
  have ek : ((k : Int) + 1) = ((k + 1 : Nat) : Int) := by omega
  refine o_bindR (o_eq (rngR_nx (by omega)) ?_)
  refine o_bind ?_
  refine o_for (fun _ _ => True) trivial (fun i s w hw _ => ?_) fun _ _ => ?_
  · have hw3 : w = 0 ∨ w = 1 ∨ w = 2 := by
      have := mem_rangeL.mp (List.mem_of_getElem? hw)
      omega
    refine o_bind ?_
    refine o_for (fun _ _ => True) trivial (fun i s x hx _ => ?_) fun _ _ => ?_
    · have hxw : x ∈ wrongs := List.mem_of_getElem? hx
      have c1 : catR (List.map dJ (cutL js none (some (k : Int)))) [x] = .nx (List.map dJ (js.take k) ++ [x]) := by
        rw [cut_to (by omega)]
        exact catR_nx (by simp; omega)
      have c2 : catR (List.map dJ (js.take k) ++ [x]) (List.map dJ (cutL js (some ((k : Int) + 1)) none)) = .nx (List.map dJ (js.take k) ++ x :: List.map dJ (js.drop (k + 1))) := by
        rw [ek, cut_from (by omega), catR_nx (by simp; omega), List.append_assoc]
        rfl
      refine o_bindR (o_eq c1 ?_)
      refine o_bindR (o_eq c2 ?_)
      have e1 : dT id (List.map dJ (js.take k) ++ x :: List.map dJ (js.drop (k + 1))) = .tuple (List.map dJ (js.take k) ++ x :: List.map dJ (js.drop (k + 1))) := by
        unfold dT
        rw [List.map_id]
      have e2 := refused_check hw3 clo_word (check_bad (A := List.map dJ (js.take k)) (B := List.map dJ (js.drop (k + 1))) (x := x) (fun y hy => by
        obtain ⟨j, hj, rfl⟩ := List.mem_map.mp hy
        exact ⟨j, .inl rfl, h.1 j (List.mem_of_mem_take hj)⟩) hxw (by simp; omega))
      rw [← e1] at e2
      refine o_bindR (o_eq e2 ?_)
      exact o_ite (fun z => absurd z (by decide)) fun _ => trivial
    · refine o_bind ?_
      refine o_bindR (o_eq (a := [(1, 6, 0), (1, 6, 0), (1, 6, 0), (1, 6, 0), (1, 6, 0), (1, 6, 0)]) rfl ?_)
      refine o_bindR (o_eq (refused_check hw3 clo_many (check_many (by simp))) ?_)
      refine o_ite (fun z => absurd z (by decide)) fun _ => ?_
      refine o_bindR (o_eq (refused_check hw3 clo_word check_seven) ?_)
      refine o_nx ?_
      exact o_ite (fun z => absurd z (by decide)) fun _ => trivial
  · refine o_bindR (o_eq (rngR_nx (by omega)) ?_)
    refine o_bindR (o_lcR toldW (fun w hw => ?_) (by rw [rangeL_len]; omega) ?_)
    · have hw3 : w = 0 ∨ w = 1 ∨ w = 2 := by
        have := mem_rangeL.mp hw
        omega
      refine o_r (o_bindR (o_eq (refused_place hw3 hd h) ?_))
      exact o_nx rfl
    · refine o_bindR (o_eq words_eq ?_)
      exact o_rt ⟨rfl, q3⟩
end Lw

set_option Elab.async false
set_option linter.all false
set_option maxRecDepth 100000
set_option maxHeartbeats 1000000
namespace Lw
open PySem L2 Gv Tk
theorem eqR_of {α : Type} [DecidableEq α] {d : α → PyData} {n : Nat} (h : EqK d n) (hn : n ≤ 64) (x y : α) : eqR (d x) (d y) = .nx (decide (x = y)) := by
  unfold eqR
  rw [h.dec x y]
  exact gd_true (by rw [h.shaped hn x, h.shaped hn y]; rfl)
/-- a ring of standings ahead of any miss: nothing is missed -/
theorem ring_none {js : List Job} {c T : Nat} (hp : Per js c) (hc : 0 < c) (hr : rep js c T) (hn : ∀ u, u < T → ms js u = none) : ∀ t, ms js t = none := by
  obtain ⟨r1, r2, r3⟩ := hr
  have hsc : c ≤ T := Nat.le_of_dvd r2 (Nat.dvd_of_mod_eq_zero r1)
  have he : st js ((T - c) + c) = st js (T - c) := by rw [Nat.sub_add_cancel hsc]; exact r3.symm
  intro t
  induction t using Nat.strongRecOn with
  | _ t ih =>
    by_cases q : t < T
    · exact hn t q
    · have e := ms_per hp he (t - c - (T - c))
      rw [show T - c + (t - c - (T - c)) + c = t by omega] at e
      rw [e]
      exact ih _ (by omega)
theorem td_all {js : List Job} {i : Nat} {j : Job} (hok : okAll js) (hj : js[i]? = some j) (hn : ∀ t, ms js t = none) (many : Nat) (hm : many ≤ 30) : ∃ T, T ≤ 800 ∧ AtE js i j many T ∧ (td js i j T).length = many ∧ (T : Int) ≤ j.2.2 + many * j.2.1 := by
  obtain ⟨o1, o2, o3, o4, o5, o6⟩ := hok.1 j (List.mem_of_getElem? hj)
  have nn : 0 ≤ (many : Int) * j.2.1 := Int.mul_nonneg (by omega) (by omega)
  have hb : (many : Int) * j.2.1 ≤ (many : Int) * 24 := Int.mul_le_mul_of_nonneg_left o4 (by omega)
  obtain ⟨T, hT, hT1⟩ := stopE_by (many := many) (B := (j.2.2 + (many : Int) * j.2.1).toNat) o1 (by omega) o5 o6 hj (by omega)
  refine ⟨T, by omega, hT1, ?_, by omega⟩
  rcases hT1.at_ with q | q
  · exact q
  · exact absurd (hn T) q
theorem drawn_ok {js : List Job} {os : List Int} {c : Nat} {S : Int} (hok : okAll js) (ho : okC js os) (hc : IsC js c) (h30 : c ≤ 30) (hS : (js.map (·.1)).sum ≤ S) (hS0 : 0 ≤ S) (hB : c * (S.toNat + 1) + c ≤ 399) : f_law_drawn_fits (js, os) = .nx true := by
  have h5 := hok.2
  have hsk := atO_sk (js := js) (os := os) ho.1
  have hok' := atO_ok hok ho
  have hc' := isC_sk hsk.symm hc
  have hS' : ((atO js os).map (·.1)).sum ≤ S := by rw [sum_sk hsk]; exact hS
  have hat := law_at_ok h5 ho.1
  have hlen := atO_len ho.1
  generalize atO js os = sh at *
  have hd := jsd_t sh
  obtain ⟨T, hTl, hT1, hT2⟩ := stop_by hc'.pos hok'.r hc'.per hS' hS0
  have hcp := hc'.pos
  have hA : At1 sh c T := ⟨hT1, hT2⟩
  obtain ⟨c2, hc3, hc4, _⟩ := common_pkg (M := c) hd hok' hc'.per hcp (by omega)
  have : c2 = c := Nat.dvd_antisymm (hc4.min c hc'.per) (hc'.min c2 hc4.per)
  subst this
  have e1 := first_pkg hd hok' hcp hc3 hA (by omega)
  obtain ⟨r, e, q⟩ := o_val (m := f_law_drawn_fits (js, os)) (N := fun r => r = true) (by
    refine o_fin ?_
    unfold m_law_drawn_fits
    refine o_bindR (o_eq hat ?_)
    refine o_bindR ((times_ok hok' hc' h30).imp (fun r2 q => ?_) fun _ q => q)
    obtain ⟨E, lg, hLG, hno, hq⟩ := q
    refine o_bindR (o_eq e1 ?_)
    rcases hq with ⟨m, rfl, hm⟩ | ⟨rfl, hE⟩
    · -- a miss
      have nrep : ¬ rep sh c2 T := fun hr => by
        have hall : ∀ u, u < T → ms sh u = none := fun u hu => hA.none hu
        have := ring_none hc'.per hcp hr hall E
        rw [hm] at this
        cases this
      have hTE : T = E := by
        rcases Nat.lt_trichotomy T E with q | q | q
        · have := hno T q
          rcases hT1 with z | z
          · exact absurd z nrep
          · exact absurd this z
        · exact q
        · exact absurd (.inr (by rw [hm]; simp)) (hT2 E q)
      subst hTE
      have ea : ans sh c2 T = some ((m : Int), (T : Int)) := by
        unfold ans
        rw [if_neg nrep, hm]
        rfl
      rw [ea]
      refine o_bindR (o_eq (a := dP2 PyData.int PyData.int ((m : Int), (T : Int))) rfl ?_)
      refine o_bindR (o_eq (eqR_of (eq_o (eq_p2 eq_i eq_i) non_t) (by decide) (some ((m : Int), (T : Int))) (some ((m : Int), (T : Int)))) ?_)
      refine o_ite (fun z => absurd z (by simp)) fun _ => ?_
      refine o_bindR (o_eq (a := dP2 PyData.int PyData.int ((m : Int), (T : Int))) rfl ?_)
      exact o_ite (fun _ => o_rt rfl) fun z => nomatch z
    · -- none
      have hr : rep sh c2 T := by
        by_cases q : rep sh c2 T
        · exact q
        · exfalso
          rcases hT1 with z | z
          · exact q z
          · have hET : E ≤ T := by
              apply Nat.not_lt.mp
              intro w
              exact z (hno T w)
            rcases hE with rfl | ⟨s, hs, rfl⟩
            · omega
            · exact hT2 s (by omega) (.inl hs)
      have hall := ring_none hc'.per hcp hr fun u hu => hA.none hu
      have ea : ans sh c2 T = none := by
        unfold ans
        rw [if_pos hr]
      obtain ⟨s, hs, hsE⟩ : ∃ s, rep sh c2 s ∧ s + c2 ≤ E := by
        rcases hE with rfl | ⟨s, hs, rfl⟩
        · exact ⟨T, hr, by omega⟩
        · exact ⟨s, hs, Nat.le_refl _⟩
      rw [ea]
      refine o_bindR (o_eq (a := PyData.none) rfl ?_)
      refine o_bindR (o_eq (eqR_of (eq_o (eq_p2 eq_i eq_i) non_t) (by decide) (none : Option (Int × Int)) none) ?_)
      refine o_ite (fun z => absurd z (by simp)) fun _ => ?_
      refine o_bindR (o_eq (a := PyData.none) rfl ?_)
      refine o_ite (fun z => nomatch z) fun _ => ?_
      refine o_bindR (o_eq (rngR_nx (by show _ ∧ _ ∧ _ ∧ (js.length : Int) ≤ _; omega)) ?_)
      refine o_bind (o_for (fun _ _ => True) trivial (fun k s' b hb _ => ?_) fun _ _ => o_rt rfl)
      obtain ⟨rfl, hk⟩ := rangeL_get0 hb
      obtain ⟨j, hj⟩ : ∃ j, sh[k]? = some j := ⟨_, List.getElem?_eq_getElem (by rw [hlen]; exact hk)⟩
      obtain ⟨T3, t1, t2, t3, _⟩ := td_all hok' hj hall 3 (by omega)
      refine o_bindR (o_eq (ends_pkg (many := 3) hd hok' hj (by omega) t2 (by omega)) ?_)
      refine o_bind (o_ite (fun z => absurd z (by simp [isA, dT])) fun _ => ?_)
      refine o_ite (fun z => absurd z (by rw [t3]; decide)) fun _ => ?_
      have hne : td sh k j T3 ≠ [] := fun z => by rw [z] at t3; simp at t3
      obtain ⟨m1, m2⟩ := maxL_ok hne
      have hmx : maxR (td sh k j T3) = .nx (maxL (td sh k j T3)) := gd_true (by
        cases q : td sh k j T3 with
        | nil => exact absurd q hne
        | cons a l => rfl)
      obtain ⟨f, f1, f2⟩ := td_done hok'.1 hj T3 (fun u _ => hall u) _ m1
      obtain ⟨f', f3, f4⟩ := done_back hok'.1 hj hc'.per hcp hs.2.1 hs hsE f _ f2
      obtain ⟨g, g1, g2, g3, g4⟩ := hLG.2 k j hj
      have hle := g3 f' _ f3 f4
      refine o_bindR (o_eq hmx ?_)
      refine o_bindR (o_eq (a := dL PyData.int lg) rfl ?_)
      have hat2 : atD (dL PyData.int lg) (k : Int) = .nx (.int g) := by
        unfold atD dL itemsD
        exact idx_nat (by rw [List.getElem?_map, g1]; rfl)
      refine o_bindR (o_eq hat2 ?_)
      refine o_bindR (o_eq (a := g) rfl ?_)
      refine o_nx ?_
      exact o_ite (fun z => absurd (of_decide_eq_true z) (by omega)) fun _ => trivial)
  rw [e, q]
end Lw

set_option Elab.async false
set_option linter.all false
set_option maxRecDepth 100000
set_option maxHeartbeats 1000000
namespace Lw
open PySem L2 Gv Tk
theorem sum_le {M : Int} : ∀ {js : List Job}, (∀ j, j ∈ js → j.1 ≤ M) → (js.map (·.1)).sum ≤ M * js.length
  | [], _ => by simp
  | j :: js, h => by
    have a := h j List.mem_cons_self
    have b := sum_le (js := js) fun u hu => h u (List.mem_cons_of_mem _ hu)
    rw [List.map_cons, List.sum_cons, List.length_cons, Int.natCast_add, Int.mul_add]
    omega
theorem Well.fix {js : List Job} (hok : okAll js) (hw : Well js) {i : Nat} {j : Job} (hj : js[i]? = some j) : Fix js i j (Rj js i j).toNat ∧ (((Rj js i j).toNat : Nat) : Int) = Rj js i j ∧ 1 ≤ Rj js i j := by
  have hjo := hok.1 j (List.mem_of_getElem? hj)
  have p := (Rj_ok (i := i) hok.1 hjo).1.pos
  exact ⟨fix_of hok.1 hjo (hw i j hj), Int.toNat_of_nonneg (by omega), p⟩
theorem Well.none {js : List Job} (hok : okAll js) (hw : Well js) : ∀ t, ms js t = none := no_miss hok.1 fun i j hj => ⟨_, (hw.fix hok hj).1⟩
/-- all at once: the first job -/
theorem first_end {js : List Job} (hok : okAll js) (hw : Well js) (h0 : ∀ j, j ∈ js → j.2.2 = 0) {i : Nat} {j : Job} (hj : js[i]? = some j) : ∃ T, T ≤ 800 ∧ AtE js i j 1 T ∧ td js i j T = [Rj js i j] ∧ ∃ f : Nat, (f : Int) < j.2.1 ∧ Done js i j f (Rj js i j) := by
  have hn := hw.none hok
  obtain ⟨F, hR, hR1⟩ := hw.fix hok hj
  obtain ⟨T, t1, t2, t3, t4⟩ := td_all hok hj hn 1 (by omega)
  obtain ⟨v, hv⟩ : ∃ v, td js i j T = [v] := List.length_eq_one_iff.mp t3
  obtain ⟨f, f1, f2⟩ := td_done hok.1 hj T (fun u _ => hn u) v (by rw [hv]; exact List.mem_cons_self)
  have z := h0 j (List.mem_of_getElem? hj)
  have up := crit hok.1 hj F.pos F.fix (fun u _ => hn u) f2
  have ge := done_ge hok.1 h0 hj F f2.2.1
  obtain ⟨_, _, a, b0, b1, b2, b3, b4⟩ := id f2
  have a0 : a = 0 := by
    rw [z] at b1 t4
    rw [Int.emod_eq_of_lt b0 (by omega)] at b1
    exact b1
  have hv2 : v = Rj js i j := by omega
  subst hv2
  exact ⟨T, t1, t2, hv, f, by omega, f2⟩
theorem times_sum {js : List Job} {os : List Int} {c : Nat} (hok : okAll js) (ho : okC js os) (h0 : ∀ j, j ∈ js → j.2.2 = 0) (hc : IsC js c) (h30 : c ≤ 30) :
    OutR (f_law_times (atO js os)) (fun r => ∃ (t0 : PyData) (lg : List Int), atD r 0 = .nx t0 ∧ atD r 1 = .nx (dL PyData.int lg) ∧ (isNo t0 = false → ¬ Well js) ∧ (os = zo js → ¬ Well js → isNo t0 = false) ∧
      ∀ (t : Nat) (j : Job), js[t]? = some j → ∃ g, lg[t]? = some g ∧ 0 ≤ g ∧ (Well js → g ≤ Rj js t j) ∧ (Well js → os = zo js → Rj js t j ≤ g)) (fun _ => False) := by
  have hsk := atO_sk (js := js) (os := os) ho.1
  have hok' := atO_ok hok ho
  have hc' := isC_sk hsk.symm hc
  refine (times_ok hok' hc' h30).imp (fun r q => ?_) fun _ q => q
  obtain ⟨E, lg, hLG, hno, hq⟩ := q
  have hwn : Well js → ∀ t, ms (atO js os) t = none := fun hw => (well_sk hsk.symm hw).none hok'
  have hEc : Well js → ∀ j, j ∈ js → j.2.1 < (E : Int) := fun hw j hj => by
    have hpc : j.2.1 ≤ c := Int.le_of_dvd (by have := hc.pos; omega) (hc.per j hj).2
    rcases hq with ⟨m, _, hm⟩ | ⟨_, rfl | ⟨s, hs, rfl⟩⟩
    · rw [hwn hw E] at hm
      cases hm
    · omega
    · have := hs.2.1
      omega
  have hlg : ∀ (t : Nat) (j : Job), js[t]? = some j → ∃ g, lg[t]? = some g ∧ 0 ≤ g ∧ (Well js → g ≤ Rj js t j) ∧ (Well js → os = zo js → Rj js t j ≤ g) := fun t j hj => by
    have ht : t < js.length := (List.getElem?_eq_some_iff.mp hj).1
    obtain ⟨o, hot⟩ : ∃ o, os[t]? = some o := ⟨_, List.getElem?_eq_getElem (by rw [ho.1]; exact ht)⟩
    have hj' := atO_get hj hot
    have hR : Rj (atO js os) t (j.1, j.2.1, o) = Rj js t j := Rj_sk hsk rfl rfl
    obtain ⟨g, g1, g2, g3, g4⟩ := hLG.2 t _ hj'
    refine ⟨g, g1, g2, fun hw => ?_, fun hw hz => ?_⟩
    · obtain ⟨F, hF, hF1⟩ := (well_sk hsk.symm hw).fix hok' hj'
      rw [hR] at F hF hF1
      rcases g4 with rfl | ⟨f, f1, f2⟩
      · omega
      · have := crit hok'.1 hj' F.pos F.fix (fun u _ => hwn hw u) f2
        omega
    · subst hz
      rw [atO_zero h0] at g3 hj'
      have ej : (j.1, j.2.1, o) = j := by
        rw [hj] at hj'
        exact (Option.some.inj hj').symm
      rw [ej] at g3
      obtain ⟨_, _, _, _, f, f1, f2⟩ := first_end hok hw h0 hj
      have := hEc hw j (List.mem_of_getElem? hj)
      exact g3 f _ (by omega) f2
  rcases hq with ⟨m, rfl, hm⟩ | ⟨rfl, hE⟩
  · refine ⟨dP2 PyData.int PyData.int ((m : Int), (E : Int)), lg, rfl, rfl, fun _ hw => ?_, fun _ _ => rfl, hlg⟩
    rw [hwn hw E] at hm
    cases hm
  · refine ⟨PyData.none, lg, rfl, rfl, fun z => (nomatch z), fun hz hnw => ?_, hlg⟩
    exfalso
    subst hz
    rw [atO_zero h0] at hno hE
    apply hnw
    intro i j hj
    apply Int.not_lt.mp
    intro hlt
    have hjm := List.mem_of_getElem? hj
    obtain ⟨t, t1, t2⟩ := must_miss hok.1 h0 hj (nofix hok.1 (hok.1 j hjm) hlt)
    have hpc : j.2.1 ≤ c := Int.le_of_dvd (by have := hc.pos; omega) (hc.per j hjm).2
    refine t2 (hno t ?_)
    rcases hE with rfl | ⟨s, hs, rfl⟩
    · omega
    · have := hs.2.1
      omega
/-! ### the five jobs -/
def wellB (js : List Job) : Bool := (List.range js.length).all fun i => match js[i]? with
  | some j => decide (Rj js i j ≤ j.2.1)
  | none => true
theorem wellB_iff {js : List Job} : wellB js = true ↔ Well js := by
  unfold wellB
  rw [List.all_eq_true]
  constructor
  · intro h i j hj
    have := h i (List.mem_range.mpr (List.getElem?_eq_some_iff.mp hj).1)
    rw [hj] at this
    exact of_decide_eq_true this
  · intro h i hi
    cases e : js[i]? with
    | none => rfl
    | some j => exact decide_eq_true (h i j e)
def five_ (f l : Int) : List Job := [(f, 24, 0), (1, 24, 3), (1, 24, 0), (1, 24, 23), (1 + l, 24, 0)]
theorem five_well : ∀ l : Nat, l < 12 → wellB (five_ 1 l) = decide ((1 : Int) + 3 + (1 + (l : Int)) ≤ 24) ∧ wellB (five_ 12 l) = decide ((12 : Int) + 3 + (1 + (l : Int)) ≤ 24) := by decide +kernel
theorem five_okA {f : Int} {l : Nat} (hf : f = 1 ∨ f = 12) (h : l < 12) : okAll (five_ f l) := ⟨fun j hj => by
  unfold five_ at hj
  simp only [List.mem_cons, List.not_mem_nil, or_false] at hj
  have mk : ∀ {r p o : Int}, 1 ≤ r ∧ r ≤ 12 ∧ 1 ≤ p ∧ p ≤ 24 ∧ 0 ≤ o ∧ o < p → okJ (r, p, o) := fun h => h
  rcases hj with rfl | rfl | rfl | rfl | rfl <;> exact mk (by omega), by show 5 ≤ 5; omega⟩
/-! ### the common period of the drawn ones -/
theorem lcm30 : ∀ p : Nat, p < 7 → ∀ q : Nat, q < 7 → Nat.lcm p q ≤ 30 := by decide
theorem com_ok {js : List Job} (hok : okAll js) (hr : ∀ j, j ∈ js → j.1 ≤ 3) (hp : (js.length = 2 ∧ ∀ j, j ∈ js → j.2.1 ≤ 6) ∨ (js.length = 3 ∧ ∀ j, j ∈ js → j.2.1 ≤ 4)) : ∃ (c : Nat) (S : Int), IsC js c ∧ c ≤ 30 ∧ (js.map (·.1)).sum ≤ S ∧ 0 ≤ S ∧ c * (S.toNat + 1) + c ≤ 399 := by
  have hsum := sum_le (js := js) hr
  rcases hp with ⟨hl, h6⟩ | ⟨hl, h4⟩
  · match js, hl with
    | [a, b], _ =>
      obtain ⟨p, hpa⟩ : ∃ p : Nat, a.2.1 = (p : Int) := ⟨a.2.1.toNat, by have := (hok.1 a (by simp)).2.2.1; omega⟩
      obtain ⟨q, hqb⟩ : ∃ q : Nat, b.2.1 = (q : Int) := ⟨b.2.1.toNat, by have := (hok.1 b (by simp)).2.2.1; omega⟩
      have p6 := h6 a (by simp)
      have q6 := h6 b (by simp)
      have p0 := (hok.1 a (by simp)).2.2.1
      have q0 := (hok.1 b (by simp)).2.2.1
      have hl30 := lcm30 p (by omega) q (by omega)
      have hpos : 0 < Nat.lcm p q := Nat.lcm_pos (by omega) (by omega)
      obtain ⟨c, _, hc, hcM⟩ := common_pkg (M := Nat.lcm p q) (jsd_t [a, b]) hok (fun j hj => by
        simp only [List.mem_cons, List.not_mem_nil, or_false] at hj
        rcases hj with rfl | rfl
        · exact ⟨by omega, by rw [hpa]; exact Int.natCast_dvd_natCast.mpr (Nat.dvd_lcm_left p q)⟩
        · exact ⟨by omega, by rw [hqb]; exact Int.natCast_dvd_natCast.mpr (Nat.dvd_lcm_right p q)⟩) hpos (by omega)
      have hcl := Nat.le_of_dvd hpos hcM
      refine ⟨c, 6, hc, by omega, by simpa using hsum, by omega, ?_⟩
      show c * (6 + 1) + c ≤ 399
      omega
  · obtain ⟨c, _, hc, hcM⟩ := common_pkg (M := 12) (jsd_t js) hok (fun j hj => by
      have a := (hok.1 j hj).2.2.1
      have b := h4 j hj
      refine ⟨by omega, ?_⟩
      rcases (show j.2.1 = 1 ∨ j.2.1 = 2 ∨ j.2.1 = 3 ∨ j.2.1 = 4 by omega) with e | e | e | e <;> rw [e] <;> decide) (by omega) (by omega)
    have hcl := Nat.le_of_dvd (by omega) hcM
    refine ⟨c, 9, hc, by omega, by rw [hl] at hsum; simpa using hsum, by omega, ?_⟩
    show c * (9 + 1) + c ≤ 399
    omega
section
variable {σ β γ : Type} {E : Er → Prop} {N : σ × List γ → Prop}
theorem o_lcRs {f : σ → β → R (σ × Option γ)} (I : Nat → σ → List γ → Prop) : ∀ {xs : List β} {k : Nat} {s : σ} {acc : List γ}, I k s acc → acc.length + xs.length ≤ 1000000 →
    (∀ i s acc b, xs[i]? = some b → I (k + i) s acc → OutR (f s b) (fun r => ∃ y, r.2 = some y ∧ I (k + i + 1) r.1 (acc ++ [y])) (fun _ => False)) → (∀ s acc, I (k + xs.length) s acc → N (s, acc)) → OutR (lcR f xs s acc) N E
  | [], k, s, acc, h0, _, _, hk => hk s acc h0
  | x :: xs, k, s, acc, h0, hl, h, hk => by
    have hl' : acc.length < 1000000 := by simp at hl; omega
    have q := h 0 s acc x rfl h0
    unfold lcR
    cases e : f s x with
    | nx r =>
      rw [e] at q
      obtain ⟨y, hy, hi⟩ := q
      obtain ⟨r1, r2⟩ := r
      replace hy : r2 = some y := hy
      subst hy
      show OutR (if acc.length < 1000000 then lcR f xs r1 (acc ++ [y]) else .stuck) N E
      rw [if_pos hl']
      refine o_lcRs I (k := k + 1) hi (by simp at hl ⊢; omega) (fun i s acc b hb hi => ?_) fun s acc hs => hk s acc (by rw [List.length_cons, show k + (xs.length + 1) = k + 1 + xs.length by omega]; exact hs)
      have q := h (i + 1) s acc b (by simpa using hb) (by rw [show k + (i + 1) = k + 1 + i by omega]; exact hi)
      rw [show k + (i + 1) + 1 = k + 1 + i + 1 by omega] at q
      exact q
    | er x => rw [e] at q; exact q.elim
    | stuck => rw [e] at q; exact q.elim
    | rt z => exact z.elim
    | bk z => exact z.elim
    | ct z => exact z.elim
end
end Lw

set_option Elab.async false
set_option linter.all false
set_option maxRecDepth 100000
set_option maxHeartbeats 2000000
namespace Lw
open PySem L2 Gv Tk
theorem law_true (ns : List Int) (hl : ns.length ≤ 63) : f_law ns = .nx true := by
  obtain ⟨r, e, q⟩ := o_val (m := f_law ns) (N := fun r => r = true) (by
    refine o_fin ?_
    unfold m_law
    obtain ⟨nums, en, hn⟩ := numbers_ok hl
    refine o_bindR (o_eq en ?_)
    refine o_bindR ((draw_ok hn (by omega)).imp (fun r2 q => ?_) fun _ q => q)
    obtain ⟨w, n2⟩ := r2
    obtain ⟨a1, a2, hn2⟩ := q
    replace a1 : 0 ≤ w := a1
    replace a2 : w < 8 := a2
    replace hn2 : Nn n2 := hn2
    refine o_ite (fun _ => ?_) fun z => ?_
    · -- five jobs
      refine o_bindR ((draw_ok hn2 (by omega)).imp (fun r3 q => ?_) fun _ q => q)
      obtain ⟨p3, n3⟩ := r3
      obtain ⟨b1, b2, hn3⟩ := q
      replace b1 : 0 ≤ p3 := b1
      replace b2 : p3 < 2 := b2
      replace hn3 : Nn n3 := hn3
      obtain ⟨f, hf, hf2⟩ : ∃ f : Int, idx ([(1 : Int), (12 : Int)]) p3 = .nx f ∧ (f = 1 ∨ f = 12) := by
        rcases (show p3 = 0 ∨ p3 = 1 by omega) with e | e <;> rw [e]
        · exact ⟨1, rfl, .inl rfl⟩
        · exact ⟨12, rfl, .inr rfl⟩
      refine o_bindR (o_eq hf ?_)
      refine o_bindR ((draw_ok hn3 (by omega)).imp (fun r5 q => ?_) fun _ q => q)
      obtain ⟨p5, n5⟩ := r5
      obtain ⟨c1, c2, hn5⟩ := q
      replace hn5 : Nn n5 := hn5
      obtain ⟨l, rfl⟩ : ∃ l : Nat, p5 = (l : Int) := ⟨p5.toNat, by have : 0 ≤ p5 := c1; omega⟩
      have hl12 : l < 12 := by have : (l : Int) < 12 := c2; omega
      have hok := five_okA hf2 hl12
      refine o_lt ?_
      obtain ⟨b, hb, hbw⟩ := never_pkg (jsd_t (five_ f l)) hok
      refine o_bindR (o_eq hb ?_)
      refine o_bindR (o_eq (a := ((1 + (l : Int)), (24 : Int), (0 : Int))) rfl ?_)
      have hbe : b = decide ((f + 3) + (1 + (l : Int)) ≤ 24) := by
        have h1 : b = wellB (five_ f l) := by
          have := hbw.trans wellB_iff.symm
          rcases b <;> cases hq : wellB (five_ f l) <;> simp_all
        rw [h1]
        rcases hf2 with rfl | rfl
        · exact (five_well l hl12).1
        · exact (five_well l hl12).2
      refine o_ite (fun z => absurd z (by rw [hbe]; simp)) fun _ => ?_
      refine o_bind ?_
      refine o_bindR (o_eq (rows_fit_ok hok) ?_)
      refine o_ite (fun _ => ?_) fun z => nomatch z
      refine o_bindR ((fit_ok hn5 hok (by show 1 ≤ 5; omega)).imp (fun r11 q => ?_) fun _ q => q)
      obtain ⟨p11, n11⟩ := r11
      obtain ⟨rfl, _⟩ := q
      exact o_nx (o_rt rfl)
    · -- drawn jobs
      have w7 : w < 7 := by
        have : ¬ w = 7 := of_decide_eq_false z
        omega
      refine o_lt ?_
      obtain ⟨many, hm, hm2⟩ : ∃ many : Nat, idx ([(2 : Int), (3 : Int), (2 : Int), (3 : Int), (2 : Int), (3 : Int), (3 : Int)]) w = .nx (many : Int) ∧ (many = 2 ∨ many = 3) := by
        rcases (show w = 0 ∨ w = 1 ∨ w = 2 ∨ w = 3 ∨ w = 4 ∨ w = 5 ∨ w = 6 by omega) with e | e | e | e | e | e | e <;> rw [e]
        · exact ⟨2, rfl, .inl rfl⟩
        · exact ⟨3, rfl, .inr rfl⟩
        · exact ⟨2, rfl, .inl rfl⟩
        · exact ⟨3, rfl, .inr rfl⟩
        · exact ⟨2, rfl, .inl rfl⟩
        · exact ⟨3, rfl, .inr rfl⟩
        · exact ⟨3, rfl, .inr rfl⟩
      refine o_bindR (o_eq hm ?_)
      refine o_bindR (o_eq (rngR_nx (by omega)) ?_)
      refine o_bind ?_
      refine o_for (fun k (s : List Int × List Job) => Nn s.1 ∧ s.2.length = k ∧ ∀ j, j ∈ s.2 → okJ j ∧ j.2.2 = 0 ∧ j.1 ≤ 3 ∧ j.2.1 ≤ 6 ∧ (many = 3 → j.2.1 ≤ 4)) ⟨hn2, rfl, fun j hj => (nomatch hj)⟩ (fun k s b hb hs => ?_) fun s hs => ?_
      · obtain ⟨h1, h2, h3⟩ := hs
        have hk : k < 3 := by
          have l := (List.getElem?_eq_some_iff.mp hb).1
          rw [rangeL_len] at l
          omega
        refine o_bindR ((draw_ok h1 (by omega)).imp (fun r17 q => ?_) fun _ q => q)
        obtain ⟨p17, n17⟩ := r17
        obtain ⟨b1, b2, b3⟩ := q
        obtain ⟨m, hm3, m1, m2, m3⟩ : ∃ m : Int, idx ([(6 : Int), (4 : Int)]) ((many : Int) - 2) = .nx m ∧ 1 ≤ m ∧ m ≤ 6 ∧ (many = 3 → m ≤ 4) := by
          rcases hm2 with rfl | rfl
          · exact ⟨6, rfl, by omega, by omega, fun e => absurd e (by omega)⟩
          · exact ⟨4, rfl, by omega, by omega, fun _ => by omega⟩
        refine o_bindR (o_eq hm3 ?_)
        refine o_bindR (o_eq (modR_nx (by omega)) ?_)
        have g1 := Int.emod_nonneg p17 (show m ≠ 0 by omega)
        have g2 := Int.emod_lt_of_pos p17 (show 0 < m by omega)
        show Out (lt (1 + p17 % m) _) _ _ _ _ _
        generalize p17 % m = u at g1 g2
        refine o_lt ?_
        refine o_bindR ((draw_ok b3 (by omega)).imp (fun r21 q => ?_) fun _ q => q)
        obtain ⟨p21, n21⟩ := r21
        obtain ⟨c1, c2, c3⟩ := q
        have mn : minI (3 : Int) (1 + u) ≤ 3 ∧ 1 ≤ minI (3 : Int) (1 + u) := by
          unfold minI
          split <;> omega
        generalize minI (3 : Int) (1 + u) = v at mn
        refine o_bindR (o_eq (modR_nx (by omega)) ?_)
        have g3 := Int.emod_nonneg p21 (show v ≠ 0 by omega)
        have g4 := Int.emod_lt_of_pos p21 (show 0 < v by omega)
        show Out (bindR (appR s.2 (1 + p21 % v, 1 + u, 0)) _) _ _ _ _ _
        generalize p21 % v = x at g3 g4
        refine o_bindR (o_eq (appR_nx (by omega)) ?_)
        refine o_nx ⟨c3, by simp [h2], fun j hj => ?_⟩
        rcases List.mem_append.mp hj with hj | hj
        · exact h3 j hj
        · have : j = (1 + x, 1 + u, 0) := by simpa using hj
          subst this
          have mk : ∀ {r p o : Int}, 1 ≤ r ∧ r ≤ 12 ∧ 1 ≤ p ∧ p ≤ 24 ∧ 0 ≤ o ∧ o < p → okJ (r, p, o) := fun h => h
          refine ⟨mk (by omega), rfl, ?_, ?_, fun e => ?_⟩
          · show 1 + x ≤ 3; omega
          · show 1 + u ≤ 6; omega
          · have := m3 e
            show 1 + u ≤ 4; omega
      · obtain ⟨n15, js⟩ := s
        obtain ⟨h1, h2, h3⟩ := hs
        rw [rangeL_len] at h2
        replace h1 : Nn n15 := h1
        replace h2 : js.length = many := by
          have : js.length = ((many : Int) - 0).toNat := h2
          omega
        replace h3 : ∀ j, j ∈ js → okJ j ∧ j.2.2 = 0 ∧ j.1 ≤ 3 ∧ j.2.1 ≤ 6 ∧ (many = 3 → j.2.1 ≤ 4) := h3
        have hok : okAll js := ⟨fun j hj => (h3 j hj).1, by omega⟩
        have h0 : ∀ j, j ∈ js → j.2.2 = 0 := fun j hj => (h3 j hj).2.1
        have h6 : ∀ j, j ∈ js → j.2.1 ≤ 6 := fun j hj => (h3 j hj).2.2.2.1
        have hd := jsd_t js
        obtain ⟨c, S, hc, h30, hS, hS0, hB⟩ := com_ok hok (fun j hj => (h3 j hj).2.2.1) (by
          rcases hm2 with e | e
          · exact .inl ⟨by omega, h6⟩
          · exact .inr ⟨by omega, fun j hj => (h3 j hj).2.2.2.2 e⟩)
        refine o_bindR (o_lcRs (fun k (s : List Int) (acc : List Int) => Nn s ∧ okC (js.take k) acc) (k := 0) ⟨h1, rfl, fun i j o h => by simp at h⟩ (by simp; omega) (fun k s acc b hb hi => ?_) fun s acc hi => ?_)
        · rw [Nat.zero_add] at hi ⊢
          obtain ⟨g1, g2, g3⟩ := hi
          have hbm := List.mem_of_getElem? hb
          have hk : k < js.length := (List.getElem?_eq_some_iff.mp hb).1
          obtain ⟨o1, o2, o3, o4, o5, o6⟩ := hok.1 b hbm
          refine o_r (o_bindR ((draw_ok g1 (show 0 < b.2.1 by omega)).imp (fun r27 q => ?_) fun _ q => q))
          obtain ⟨p27, n27⟩ := r27
          obtain ⟨b1, b2, b3⟩ := q
          have htk : js.take (k + 1) = js.take k ++ [b] := by rw [List.take_succ, hb]; rfl
          have al : acc.length = k := by rw [g2]; simp; omega
          refine o_nx ⟨p27, rfl, b3, by rw [htk, List.length_append, List.length_append, g2]; rfl, fun i j o hj ho => ?_⟩
          rw [htk] at hj
          by_cases hik : i < k
          · rw [List.getElem?_append_left (by rw [← g2, al]; exact hik)] at hj
            rw [List.getElem?_append_left (by rw [al]; exact hik)] at ho
            exact g3 i j o hj ho
          · rw [List.getElem?_append_right (by rw [← g2, al]; omega)] at hj
            rw [List.getElem?_append_right (by rw [al]; omega)] at ho
            rw [← g2] at hj
            have i0 : i - acc.length = 0 := by
              have := (List.getElem?_eq_some_iff.mp ho).1
              simpa using this
            rw [i0] at hj ho
            cases hj
            cases ho
            exact ⟨b1, b2⟩
        · rw [Nat.zero_add, List.take_length] at hi
          obtain ⟨hns, hasked⟩ := hi
          have h5 := hok.2
          refine o_bind ?_
          refine o_bindR (o_eq (rows_fit_ok hok) ?_)
          refine o_ite (fun z => nomatch z) fun _ => ?_
          refine o_bindR (o_eq (law_at_ok h5 hasked.1) ?_)
          refine o_bindR (o_eq (rows_fit_ok (atO_ok hok hasked)) ?_)
          refine o_ite (fun z => nomatch z) fun _ => ?_
          refine o_bindR ((fit_ok hns hok (by omega)).imp (fun r32 q => ?_) fun _ q => q)
          obtain ⟨p32, n32⟩ := r32
          obtain ⟨rfl, _⟩ := q
          refine o_nx (o_ite (fun z => nomatch z) fun _ => ?_)
          refine o_bindR (o_eq (zeros_law h5) ?_)
          refine o_bindR ((offsets_ok hok (by omega) h6).imp (fun cs q => ?_) fun _ q => q)
          obtain ⟨hcs, hz⟩ := q
          refine o_bind ?_
          refine o_for (fun k (s : Bool × List Int) => (s.1 = true → ¬ Well js) ∧ (zo js ∈ cs.take k → ¬ Well js → s.1 = true) ∧ ∀ (t : Nat) (j : Job), js[t]? = some j → ∃ g, s.2[t]? = some g ∧ 0 ≤ g ∧ (Well js → g ≤ Rj js t j) ∧ (Well js → zo js ∈ cs.take k → Rj js t j ≤ g))
            ⟨fun z => (nomatch z), fun z => by simp at z, fun t j hj => ⟨0, zs_get hj, Int.le_refl _, fun hw => by have := (hw.fix hok hj).2.2; omega, fun _ z => by simp at z⟩⟩ (fun k s os hos hs => ?_) fun s hs => ?_
          · obtain ⟨i1, i2, i3⟩ := hs
            have hoc := hcs os (List.mem_of_getElem? hos)
            have hzt : zo js ∈ cs.take (k + 1) → zo js ∈ cs.take k ∨ os = zo js := fun z => by
              rw [List.take_succ, hos] at z
              rcases List.mem_append.mp z with z | z
              · exact .inl z
              · have : zo js = os := by simpa using z
                exact .inr this.symm
            refine o_bindR (o_eq (law_at_ok h5 hoc.1) ?_)
            refine o_bindR ((times_sum hok hoc h0 hc h30).imp (fun r40 q => ?_) fun _ q => q)
            obtain ⟨t0, lg, q1, q2, q3, q4, q5⟩ := q
            refine o_bind (Out.imp (N := fun (s41 : Bool) => (s41 = true → ¬ Well js) ∧ (zo js ∈ cs.take (k + 1) → ¬ Well js → s41 = true)) (T := fun _ => False) (B := fun _ => False) (C := fun _ => False) (E := fun _ => False) ?_ (fun s41 h41 => ?_) (fun _ q => q.elim) (fun _ q => q.elim) (fun _ q => q.elim) fun _ q => q)
            · refine o_bindR (o_eq q1 ?_)
              refine o_ite (fun z => ?_) fun z => ?_
              · have z' : isNo t0 = false := by
                  cases q : isNo t0 with
                  | false => rfl
                  | true => rw [q] at z; cases z
                exact o_nx ⟨fun _ => q3 z', fun _ _ => rfl⟩
              · refine o_nx ⟨i1, fun y hw => ?_⟩
                rcases hzt y with y | y
                · exact i2 y hw
                · have := q4 y hw
                  rw [this] at z
                  cases z
            refine o_bindR (o_eq (rngR_nx (by omega)) ?_)
            refine o_bind ?_
            refine o_for (fun m (s' : List Int) => ∀ (t : Nat) (j : Job), js[t]? = some j → ∃ g, s'[t]? = some g ∧ 0 ≤ g ∧ (Well js → g ≤ Rj js t j) ∧ (Well js → zo js ∈ cs.take k → Rj js t j ≤ g) ∧ (t < m → Well js → os = zo js → Rj js t j ≤ g))
              (fun t j hj => by
                obtain ⟨g, e1, e2, e3, e4⟩ := i3 t j hj
                exact ⟨g, e1, e2, e3, e4, fun h => absurd h (by omega)⟩) (fun m s' b hb hs' => ?_) fun s' hs' => ?_
            · obtain ⟨rfl, hmk⟩ := rangeL_get0 hb
              obtain ⟨j, hj⟩ : ∃ j, js[m]? = some j := ⟨_, List.getElem?_eq_getElem (by omega)⟩
              obtain ⟨g, e1, e2, e3, e4, _⟩ := hs' m j hj
              obtain ⟨g', f1, f2, f3, f4⟩ := q5 m j hj
              have hml : m < s'.length := (List.getElem?_eq_some_iff.mp e1).1
              have hat2 : atD (dL PyData.int lg) (m : Int) = .nx (.int g') := by
                unfold atD dL itemsD
                exact idx_nat (by rw [List.getElem?_map, f1]; rfl)
              refine o_bindR (o_eq (idx_nat e1) ?_)
              refine o_bindR (o_eq q2 ?_)
              refine o_bindR (o_eq hat2 ?_)
              refine o_bindR (o_eq (a := g') rfl ?_)
              refine o_bindR (o_eq (setR_nat hml) ?_)
              refine o_nx fun t j2 hj2 => ?_
              by_cases ht : m = t
              · subst ht
                rw [hj] at hj2
                cases hj2
                refine ⟨_, List.getElem?_set_self hml, ?_, fun hw => ?_, fun hw y => ?_, fun _ hw y => ?_⟩
                · unfold maxI; split <;> omega
                · have a := e3 hw
                  have b := f3 hw
                  unfold maxI; split <;> omega
                · have a := e4 hw y
                  unfold maxI; split <;> omega
                · have b := f4 hw y
                  unfold maxI; split <;> omega
              · obtain ⟨g2, y1, y2, y3, y4, y5⟩ := hs' t j2 hj2
                exact ⟨g2, by rw [List.getElem?_set_ne ht]; exact y1, y2, y3, y4, fun h => y5 (by omega)⟩
            · rw [rangeL_len] at hs'
              refine o_nx ⟨h41.1, h41.2, fun t j hj => ?_⟩
              obtain ⟨g, e1, e2, e3, e4, e5⟩ := hs' t j hj
              have ht : t < js.length := (List.getElem?_eq_some_iff.mp hj).1
              refine ⟨g, e1, e2, e3, fun hw y => ?_⟩
              rcases hzt y with y | y
              · exact e4 hw y
              · exact e5 (by omega) hw y
          · obtain ⟨i1, i2, i3⟩ := hs
            rw [List.take_length] at i2 i3
            obtain ⟨b, hb, hbw⟩ := never_pkg hd hok
            refine o_bindR (o_eq hb ?_)
            refine o_ite (fun z => ?_) fun _ => ?_
            · exfalso
              have z' : b = s.1 := of_decide_eq_true z
              cases e : s.1 with
              | true => exact i1 e (hbw.mp (z'.trans e))
              | false =>
                have hnw : ¬ Well js := fun hw => by
                  have := hbw.mpr hw
                  rw [z', e] at this
                  cases this
                have := i2 hz hnw
                rw [e] at this
                cases this
            · refine o_bind (Out.imp (N := fun _ => True) (T := fun _ => False) (B := fun _ => False) (C := fun _ => False) (E := fun _ => False) ?_ (fun _ _ => ?_) (fun _ q => q.elim) (fun _ q => q.elim) (fun _ q => q.elim) fun _ q => q)
              · refine o_ite (fun z => ?_) fun _ => trivial
                have hw : Well js := by
                  apply Classical.byContradiction
                  intro hnw
                  rw [i2 hz hnw] at z
                  cases z
                refine o_bindR (o_eq (rngR_nx (by omega)) ?_)
                refine o_bind (o_for (fun _ _ => True) trivial (fun t s' b hb _ => ?_) fun _ _ => trivial)
                obtain ⟨rfl, htk⟩ := rangeL_get0 hb
                obtain ⟨j, hj⟩ : ∃ j, js[t]? = some j := ⟨_, List.getElem?_eq_getElem (by omega)⟩
                obtain ⟨g, e1, e2, e3, e4⟩ := i3 t j hj
                have hg : g = Rj js t j := by
                  have a := e3 hw
                  have b := e4 hw hz
                  omega
                subst hg
                obtain ⟨T, t1, t2, t3, _⟩ := first_end hok hw h0 hj
                refine o_bind ?_
                refine o_bindR (o_eq (response_pkg hd hok hj) ?_)
                rw [show (if Rj js t j ≤ j.2.1 then some (Rj js t j) else none) = some (Rj js t j) from if_pos (hw t j hj)]
                refine o_bindR (o_eq (idx_nat e1) ?_)
                refine o_ite (fun z => absurd z (by simp)) fun _ => ?_
                refine o_bindR (o_eq (ends_pkg (many := 1) hd hok hj (by omega) t2 (by omega)) ?_)
                rw [t3]
                refine o_bindR (o_eq (idx_nat e1) ?_)
                refine o_nx ?_
                exact o_ite (fun z => absurd z (by simp)) fun _ => trivial
              · refine o_bindR (o_eq (drawn_ok hok hasked hc h30 hS hS0 hB) ?_)
                exact o_rt rfl)
  rw [e, q]
end Lw

set_option Elab.async false
set_option linter.all false
set_option maxRecDepth 100000
set_option maxHeartbeats 4000000
/-! the defs do what their mirrors tell -/
namespace Lw
open PySem L2 Gv
def top (i : Nat) : Stmt := PySem.Challenge.pw_guardrungs_k77_whole_worst_over_all_offs.main.body.getD i (.Pass ⟨0, 0, 0, 0⟩)
abbrev st_is_whole : Stmt := top 6
theorem sc_is_whole : FnScope ["value"] ["value"] (defScope st_is_whole) := ⟨rfl, rfl, rfl, by decide +kernel, rfl, by decide +kernel, by decide +kernel⟩
abbrev pre_is_whole (a : PyData) (as : List Addr) : List (Option Tm) := [some (.dat (eD a))]
abbrev post_is_whole (r : Bool) (as : List Addr) : List (Option Tm) := [none]
abbrev ret_is_whole (r : Bool) : Tm := .dat (eB r)
abbrev st_whole_in : Stmt := top 7
theorem sc_whole_in : FnScope ["value", "low", "high"] ["value", "low", "high"] (defScope st_whole_in) := ⟨rfl, rfl, rfl, by decide +kernel, rfl, by decide +kernel, by decide +kernel⟩
abbrev pre_whole_in (a : (PyData × Int × Int)) (as : List Addr) : List (Option Tm) := [some (.dat (eD a.1)), some (.dat (eI a.2.1)), some (.dat (eI a.2.2))]
abbrev post_whole_in (r : Bool) (as : List Addr) : List (Option Tm) := [none, none, none]
abbrev ret_whole_in (r : Bool) : Tm := .dat (eB r)
abbrev st_check_jobs : Stmt := top 15
theorem sc_check_jobs : FnScope ["jobs", "job"] ["jobs"] (defScope st_check_jobs) := ⟨rfl, rfl, rfl, by decide +kernel, rfl, by decide +kernel, by decide +kernel⟩
abbrev pre_check_jobs (a : PyData) (as : List Addr) : List (Option Tm) := [some (.dat (eD a))]
abbrev post_check_jobs (r : Unit) (as : List Addr) : List (Option Tm) := [none]
abbrev ret_check_jobs (r : Unit) : Tm := .dat eN
abbrev st_check_job_place : Stmt := top 16
theorem sc_check_job_place : FnScope ["jobs", "place"] ["jobs", "place"] (defScope st_check_job_place) := ⟨rfl, rfl, rfl, by decide +kernel, rfl, by decide +kernel, by decide +kernel⟩
abbrev pre_check_job_place (a : (PyData × Int)) (as : List Addr) : List (Option Tm) := [some (.dat (eD a.1)), some (.dat (eI a.2))]
abbrev post_check_job_place (r : Unit) (as : List Addr) : List (Option Tm) := [none, none]
abbrev ret_check_job_place (r : Unit) : Tm := .dat eN
abbrev st_common_period : Stmt := top 17
theorem sc_common_period : FnScope ["jobs", "common", "job"] ["jobs"] (defScope st_common_period) := ⟨rfl, rfl, rfl, by decide +kernel, rfl, by decide +kernel, by decide +kernel⟩
abbrev pre_common_period (a : PyData) (as : List Addr) : List (Option Tm) := [some (.dat (eD a))]
abbrev post_common_period (r : Int) (as : List Addr) : List (Option Tm) := [none]
abbrev ret_common_period (r : Int) : Tm := .dat (eI r)
abbrev st_jobs_come : Stmt := top 18
theorem sc_jobs_come : FnScope ["jobs", "left", "tick", "missed", "place", "rungs", "period", "offset"] ["jobs", "left", "tick"] (defScope st_jobs_come) := ⟨rfl, rfl, rfl, by decide +kernel, rfl, by decide +kernel, by decide +kernel⟩
abbrev pre_jobs_come (a : (PyData × (List Int) × Int)) (as : List Addr) : List (Option Tm) := [some (.dat (eD a.1)), some (.own (as[0]?) (.lst (List.map eI a.2.1))), some (.dat (eI a.2.2))]
abbrev post_jobs_come (r : ((Option Int) × (List Int))) (as : List Addr) : List (Option Tm) := [none, some (.own (as[0]?) (.lst (List.map eI r.2))), none]
abbrev ret_jobs_come (r : ((Option Int) × (List Int))) : Tm := .dat ((eO eI) r.1)
abbrev st_run_one_rung : Stmt := top 19
theorem sc_run_one_rung : FnScope ["left", "place"] ["left"] (defScope st_run_one_rung) := ⟨rfl, rfl, rfl, by decide +kernel, rfl, by decide +kernel, by decide +kernel⟩
abbrev pre_run_one_rung (a : (List Int)) (as : List Addr) : List (Option Tm) := [some (.own (as[0]?) (.lst (List.map eI a)))]
abbrev post_run_one_rung (r : (Int × (List Int))) (as : List Addr) : List (Option Tm) := [some (.own (as[0]?) (.lst (List.map eI r.2)))]
abbrev ret_run_one_rung (r : (Int × (List Int))) : Tm := .dat (eI r.1)
abbrev st_first_miss : Stmt := top 13
theorem sc_first_miss : FnScope ["jobs", "common", "left", "seen", "tick", "missed", "_"] ["jobs"] (defScope st_first_miss) := ⟨rfl, rfl, rfl, by decide +kernel, rfl, by decide +kernel, by decide +kernel⟩
abbrev pre_first_miss (a : PyData) (as : List Addr) : List (Option Tm) := [some (.dat (eD a))]
abbrev post_first_miss (r : (Option (Int × Int))) (as : List Addr) : List (Option Tm) := [none]
abbrev ret_first_miss (r : (Option (Int × Int))) : Tm := .dat ((eO (eP2 eI eI)) r)
abbrev st_job_ends : Stmt := top 14
theorem sc_job_ends : FnScope ["jobs", "place", "many", "left", "found", "tick", "_", "period", "offset", "ran"] ["jobs", "place", "many"] (defScope st_job_ends) := ⟨rfl, rfl, rfl, by decide +kernel, rfl, by decide +kernel, by decide +kernel⟩
abbrev pre_job_ends (a : (PyData × Int × Int)) (as : List Addr) : List (Option Tm) := [some (.dat (eD a.1)), some (.dat (eI a.2.1)), some (.dat (eI a.2.2))]
abbrev post_job_ends (r : (List Int)) (as : List Addr) : List (Option Tm) := [none, none, none]
abbrev ret_job_ends (r : (List Int)) : Tm := .dat ((eT eI) r)
abbrev st_rows_of_response : Stmt := top 22
theorem sc_rows_of_response : FnScope ["jobs", "place", "found", "own", "period", "_", "total", "urgent"] ["jobs", "place"] (defScope st_rows_of_response) := ⟨rfl, rfl, rfl, by decide +kernel, rfl, by decide +kernel, by decide +kernel⟩
abbrev pre_rows_of_response (a : (PyData × Int)) (as : List Addr) : List (Option Tm) := [some (.dat (eD a.1)), some (.dat (eI a.2))]
abbrev post_rows_of_response (r : (List Int)) (as : List Addr) : List (Option Tm) := [none, none]
abbrev ret_rows_of_response (r : (List Int)) : Tm := .dat ((eT eI) r)
abbrev st_response : Stmt := top 21
theorem sc_response : FnScope ["jobs", "place", "last"] ["jobs", "place"] (defScope st_response) := ⟨rfl, rfl, rfl, by decide +kernel, rfl, by decide +kernel, by decide +kernel⟩
abbrev pre_response (a : (PyData × Int)) (as : List Addr) : List (Option Tm) := [some (.dat (eD a.1)), some (.dat (eI a.2))]
abbrev post_response (r : (Option Int)) (as : List Addr) : List (Option Tm) := [none, none]
abbrev ret_response (r : (Option Int)) : Tm := .dat ((eO eI) r)
abbrev st_never_misses : Stmt := top 23
theorem sc_never_misses : FnScope ["jobs", "place"] ["jobs"] (defScope st_never_misses) := ⟨rfl, rfl, rfl, by decide +kernel, rfl, by decide +kernel, by decide +kernel⟩
abbrev pre_never_misses (a : PyData) (as : List Addr) : List (Option Tm) := [some (.dat (eD a))]
abbrev post_never_misses (r : Bool) (as : List Addr) : List (Option Tm) := [none]
abbrev ret_never_misses (r : Bool) : Tm := .dat (eB r)
abbrev st_law_numbers : Stmt := top 25
theorem sc_law_numbers : FnScope ["script", "numbers", "place", "cell", "turned", "turn", "seed"] ["script"] (defScope st_law_numbers) := ⟨rfl, rfl, rfl, by decide +kernel, rfl, by decide +kernel, by decide +kernel⟩
abbrev pre_law_numbers (a : (List Int)) (as : List Addr) : List (Option Tm) := [some (.dat ((eL eI) a))]
abbrev post_law_numbers (r : (List Int)) (as : List Addr) : List (Option Tm) := [none]
abbrev ret_law_numbers (r : (List Int)) : Tm := .own none (.lst (List.map eI r))
abbrev st_law_draw : Stmt := top 26
theorem sc_law_draw : FnScope ["numbers", "many"] ["numbers", "many"] (defScope st_law_draw) := ⟨rfl, rfl, rfl, by decide +kernel, rfl, by decide +kernel, by decide +kernel⟩
abbrev pre_law_draw (a : ((List Int) × Int)) (as : List Addr) : List (Option Tm) := [some (.own (as[0]?) (.lst (List.map eI a.1))), some (.dat (eI a.2))]
abbrev post_law_draw (r : (Int × (List Int))) (as : List Addr) : List (Option Tm) := [some (.own (as[0]?) (.lst (List.map eI r.2))), none]
abbrev ret_law_draw (r : (Int × (List Int))) : Tm := .dat (eI r.1)
abbrev st_law_int : Stmt := top 27
theorem sc_law_int : FnScope ["value"] ["value"] (defScope st_law_int) := ⟨rfl, rfl, rfl, by decide +kernel, rfl, by decide +kernel, by decide +kernel⟩
abbrev pre_law_int (a : PyData) (as : List Addr) : List (Option Tm) := [some (.dat (eD a))]
abbrev post_law_int (r : Bool) (as : List Addr) : List (Option Tm) := [none]
abbrev ret_law_int (r : Bool) : Tm := .dat (eB r)
abbrev st_law_responses : Stmt := top 28
theorem sc_law_responses : FnScope ["jobs", "place", "row", "turn", "last", "total", "k"] ["jobs", "place"] (defScope st_law_responses) := ⟨rfl, rfl, rfl, by decide +kernel, rfl, by decide +kernel, by decide +kernel⟩
abbrev pre_law_responses (a : ((List (Int × Int × Int)) × Int)) (as : List Addr) : List (Option Tm) := [some (.dat ((eT (eP3 eI eI eI)) a.1)), some (.dat (eI a.2))]
abbrev post_law_responses (r : (List Int)) (as : List Addr) : List (Option Tm) := [none, none]
abbrev ret_law_responses (r : (List Int)) : Tm := .own none (.lst (List.map eI r))
abbrev st_law_common : Stmt := top 29
theorem sc_law_common : FnScope ["jobs", "common", "job"] ["jobs"] (defScope st_law_common) := ⟨rfl, rfl, rfl, by decide +kernel, rfl, by decide +kernel, by decide +kernel⟩
abbrev pre_law_common (a : (List (Int × Int × Int))) (as : List Addr) : List (Option Tm) := [some (.dat ((eT (eP3 eI eI eI)) a))]
abbrev post_law_common (r : Int) (as : List Addr) : List (Option Tm) := [none]
abbrev ret_law_common (r : Int) : Tm := .dat (eI r)
abbrev st_law_times : Stmt := top 30
theorem sc_law_times : FnScope ["jobs", "left", "came", "longest", "common", "kept", "still", "tick", "t", "run", "job"] ["jobs"] (defScope st_law_times) := ⟨rfl, rfl, rfl, by decide +kernel, rfl, by decide +kernel, by decide +kernel⟩
abbrev pre_law_times (a : (List (Int × Int × Int))) (as : List Addr) : List (Option Tm) := [some (.dat ((eT (eP3 eI eI eI)) a))]
abbrev post_law_times (r : PyData) (as : List Addr) : List (Option Tm) := [none]
abbrev ret_law_times (r : PyData) : Tm := .dat (eD r)
abbrev st_law_offsets : Stmt := top 31
theorem sc_law_offsets : FnScope ["jobs", "choices", "job", "longer", "choice", "offset"] ["jobs"] (defScope st_law_offsets) := ⟨rfl, rfl, rfl, by decide +kernel, rfl, by decide +kernel, by decide +kernel⟩
abbrev pre_law_offsets (a : (List (Int × Int × Int))) (as : List Addr) : List (Option Tm) := [some (.dat ((eT (eP3 eI eI eI)) a))]
abbrev post_law_offsets (r : (List (List Int))) (as : List Addr) : List (Option Tm) := [none]
abbrev ret_law_offsets (r : (List (List Int))) : Tm := .dat ((eL (eT eI)) r)
abbrev st_law_at : Stmt := top 32
theorem sc_law_at : FnScope ["jobs", "offsets", "t"] ["jobs", "offsets"] (defScope st_law_at) := ⟨rfl, rfl, rfl, by decide +kernel, rfl, by decide +kernel, by decide +kernel⟩
abbrev pre_law_at (a : ((List (Int × Int × Int)) × (List Int))) (as : List Addr) : List (Option Tm) := [some (.dat ((eT (eP3 eI eI eI)) a.1)), some (.dat ((eT eI) a.2))]
abbrev post_law_at (r : (List (Int × Int × Int))) (as : List Addr) : List (Option Tm) := [none, none]
abbrev ret_law_at (r : (List (Int × Int × Int))) : Tm := .dat ((eT (eP3 eI eI eI)) r)
abbrev st_law_rows_fit : Stmt := top 33
theorem sc_law_rows_fit : FnScope ["jobs", "well", "place", "told", "row", "number", "due", "worst"] ["jobs"] (defScope st_law_rows_fit) := ⟨rfl, rfl, rfl, by decide +kernel, rfl, by decide +kernel, by decide +kernel⟩
abbrev pre_law_rows_fit (a : (List (Int × Int × Int))) (as : List Addr) : List (Option Tm) := [some (.dat ((eT (eP3 eI eI eI)) a))]
abbrev post_law_rows_fit (r : Bool) (as : List Addr) : List (Option Tm) := [none]
abbrev ret_law_rows_fit (r : Bool) : Tm := .dat (eB r)
abbrev st_law_refused : Stmt := top 34
theorem sc_law_refused : FnScope ["word", "jobs", "told", "raised"] ["word", "jobs"] (defScope st_law_refused) := ⟨rfl, rfl, rfl, by decide +kernel, rfl, by decide +kernel, by decide +kernel⟩
abbrev pre_law_refused (a : (Int × PyData)) (as : List Addr) : List (Option Tm) := [some (.dat (eI a.1)), some (.dat (eD a.2))]
abbrev post_law_refused (r : Str) (as : List Addr) : List (Option Tm) := [none, none]
abbrev ret_law_refused (r : Str) : Tm := .dat (eS r)
abbrev st_law_refusals_fit : Stmt := top 35
theorem sc_law_refusals_fit : FnScope ["numbers", "jobs", "at", "word", "wrong"] ["numbers", "jobs"] (defScope st_law_refusals_fit) := ⟨rfl, rfl, rfl, by decide +kernel, rfl, by decide +kernel, by decide +kernel⟩
abbrev pre_law_refusals_fit (a : ((List Int) × (List (Int × Int × Int)))) (as : List Addr) : List (Option Tm) := [some (.own (as[0]?) (.lst (List.map eI a.1))), some (.dat ((eT (eP3 eI eI eI)) a.2))]
abbrev post_law_refusals_fit (r : (Bool × (List Int))) (as : List Addr) : List (Option Tm) := [some (.own (as[0]?) (.lst (List.map eI r.2))), none]
abbrev ret_law_refusals_fit (r : (Bool × (List Int))) : Tm := .dat (eB r.1)
abbrev st_law_drawn_fits : Stmt := top 36
theorem sc_law_drawn_fits : FnScope ["jobs", "asked", "shifted", "due", "place", "told"] ["jobs", "asked"] (defScope st_law_drawn_fits) := ⟨rfl, rfl, rfl, by decide +kernel, rfl, by decide +kernel, by decide +kernel⟩
abbrev pre_law_drawn_fits (a : ((List (Int × Int × Int)) × (List Int))) (as : List Addr) : List (Option Tm) := [some (.dat ((eT (eP3 eI eI eI)) a.1)), some (.dat ((eT eI) a.2))]
abbrev post_law_drawn_fits (r : Bool) (as : List Addr) : List (Option Tm) := [none, none]
abbrev ret_law_drawn_fits (r : Bool) : Tm := .dat (eB r)
abbrev st_law : Stmt := top 37
theorem sc_law : FnScope ["script", "numbers", "word", "jobs", "many", "t", "asked", "missed", "longest", "offsets", "first", "period", "told", "job"] ["script"] (defScope st_law) := ⟨rfl, rfl, rfl, by decide +kernel, rfl, by decide +kernel, by decide +kernel⟩
abbrev pre_law (a : (List Int)) (as : List Addr) : List (Option Tm) := [some (.dat ((eL eI) a))]
abbrev post_law (r : Bool) (as : List Addr) : List (Option Tm) := [none]
abbrev ret_law (r : Bool) : Tm := .dat (eB r)
abbrev sti_BadNumber : Stmt := inClass (top 3) 0
theorem sci_BadNumber : FnScope ["self", "word"] ["self", "word"] (defScope sti_BadNumber) := ⟨rfl, rfl, rfl, by decide +kernel, rfl, by decide +kernel, by decide +kernel⟩
abbrev sti_TooMany : Stmt := inClass (top 4) 0
theorem sci_TooMany : FnScope ["self", "limit"] ["self", "limit"] (defScope sti_TooMany) := ⟨rfl, rfl, rfl, by decide +kernel, rfl, by decide +kernel, by decide +kernel⟩
structure Zs where
  f_is_whole : Addr
  d_is_whole : FuncData
  f_whole_in : Addr
  d_whole_in : FuncData
  f_check_jobs : Addr
  d_check_jobs : FuncData
  f_check_job_place : Addr
  d_check_job_place : FuncData
  f_common_period : Addr
  d_common_period : FuncData
  f_jobs_come : Addr
  d_jobs_come : FuncData
  f_run_one_rung : Addr
  d_run_one_rung : FuncData
  f_first_miss : Addr
  d_first_miss : FuncData
  f_job_ends : Addr
  d_job_ends : FuncData
  f_rows_of_response : Addr
  d_rows_of_response : FuncData
  f_response : Addr
  d_response : FuncData
  f_never_misses : Addr
  d_never_misses : FuncData
  f_law_numbers : Addr
  d_law_numbers : FuncData
  f_law_draw : Addr
  d_law_draw : FuncData
  f_law_int : Addr
  d_law_int : FuncData
  f_law_responses : Addr
  d_law_responses : FuncData
  f_law_common : Addr
  d_law_common : FuncData
  f_law_times : Addr
  d_law_times : FuncData
  f_law_offsets : Addr
  d_law_offsets : FuncData
  f_law_at : Addr
  d_law_at : FuncData
  f_law_rows_fit : Addr
  d_law_rows_fit : FuncData
  f_law_refused : Addr
  d_law_refused : FuncData
  f_law_refusals_fit : Addr
  d_law_refusals_fit : FuncData
  f_law_drawn_fits : Addr
  d_law_drawn_fits : FuncData
  f_law : Addr
  d_law : FuncData
  c_BadNumber : Addr
  i_BadNumber : Addr
  j_BadNumber : FuncData
  c_TooMany : Addr
  i_TooMany : Addr
  j_TooMany : FuncData
  ec : Str → Addr
structure Txt (K : PySem.W.Frag) (mg : Str → Option Value) (Z : Zs) : Prop where
  z_all : mg "all" = none
  z_bool : mg "bool" = none
  z_enumerate : mg "enumerate" = none
  z_int : mg "int" = none
  z_isinstance : mg "isinstance" = none
  z_len : mg "len" = none
  z_list : mg "list" = none
  z_max : mg "max" = none
  z_min : mg "min" = none
  z_range : mg "range" = none
  z_str : mg "str" = none
  z_sum : mg "sum" = none
  z_tuple : mg "tuple" = none
  k_LONGEST_JOB : ∃ u, mg "LONGEST_JOB" = some u ∧ RelV (.int 24) u
  k_MOST_JOBS : ∃ u, mg "MOST_JOBS" = some u ∧ RelV (.int 5) u
  k_MOST_RUNGS : ∃ u, mg "MOST_RUNGS" = some u ∧ RelV (.int 12) u
  k_MOST_TOLD : ∃ u, mg "MOST_TOLD" = some u ∧ RelV (.int 200) u
  i_lcm : mg "lcm" = some (.builtin "math.lcm")
  d_is_whole : Df K mg "_is_whole" st_is_whole Z.f_is_whole Z.d_is_whole ["value"]
  d_whole_in : Df K mg "_whole_in" st_whole_in Z.f_whole_in Z.d_whole_in ["value", "low", "high"]
  d_check_jobs : Df K mg "_check_jobs" st_check_jobs Z.f_check_jobs Z.d_check_jobs ["jobs"]
  d_check_job_place : Df K mg "_check_job_place" st_check_job_place Z.f_check_job_place Z.d_check_job_place ["jobs", "place"]
  d_common_period : Df K mg "_common_period" st_common_period Z.f_common_period Z.d_common_period ["jobs"]
  d_jobs_come : Df K mg "_jobs_come" st_jobs_come Z.f_jobs_come Z.d_jobs_come ["jobs", "left", "tick"]
  d_run_one_rung : Df K mg "_run_one_rung" st_run_one_rung Z.f_run_one_rung Z.d_run_one_rung ["left"]
  d_first_miss : Df K mg "first_miss" st_first_miss Z.f_first_miss Z.d_first_miss ["jobs"]
  d_job_ends : Df K mg "job_ends" st_job_ends Z.f_job_ends Z.d_job_ends ["jobs", "place", "many"]
  d_rows_of_response : Df K mg "rows_of_response" st_rows_of_response Z.f_rows_of_response Z.d_rows_of_response ["jobs", "place"]
  d_response : Df K mg "response" st_response Z.f_response Z.d_response ["jobs", "place"]
  d_never_misses : Df K mg "never_misses" st_never_misses Z.f_never_misses Z.d_never_misses ["jobs"]
  d_law_numbers : Df K mg "_law_numbers" st_law_numbers Z.f_law_numbers Z.d_law_numbers ["script"]
  d_law_draw : Df K mg "_law_draw" st_law_draw Z.f_law_draw Z.d_law_draw ["numbers", "many"]
  d_law_int : Df K mg "_law_int" st_law_int Z.f_law_int Z.d_law_int ["value"]
  d_law_responses : Df K mg "_law_responses" st_law_responses Z.f_law_responses Z.d_law_responses ["jobs", "place"]
  d_law_common : Df K mg "_law_common" st_law_common Z.f_law_common Z.d_law_common ["jobs"]
  d_law_times : Df K mg "_law_times" st_law_times Z.f_law_times Z.d_law_times ["jobs"]
  d_law_offsets : Df K mg "_law_offsets" st_law_offsets Z.f_law_offsets Z.d_law_offsets ["jobs"]
  d_law_at : Df K mg "_law_at" st_law_at Z.f_law_at Z.d_law_at ["jobs", "offsets"]
  d_law_rows_fit : Df K mg "_law_rows_fit" st_law_rows_fit Z.f_law_rows_fit Z.d_law_rows_fit ["jobs"]
  d_law_refused : Df K mg "_law_refused" st_law_refused Z.f_law_refused Z.d_law_refused ["word", "jobs"]
  d_law_refusals_fit : Df K mg "_law_refusals_fit" st_law_refusals_fit Z.f_law_refusals_fit Z.d_law_refusals_fit ["numbers", "jobs"]
  d_law_drawn_fits : Df K mg "_law_drawn_fits" st_law_drawn_fits Z.f_law_drawn_fits Z.d_law_drawn_fits ["jobs", "asked"]
  d_law : Df K mg "law" st_law Z.f_law Z.d_law ["script"]
  x_BadNumber : Ex1 K mg "BadNumber" "BadNumber.__init__" ["word"] sti_BadNumber Z.c_BadNumber Z.i_BadNumber Z.j_BadNumber
  ec_BadNumber : Z.ec "BadNumber" = Z.c_BadNumber
  x_TooMany : Ex1 K mg "TooMany" "TooMany.__init__" ["limit"] sti_TooMany Z.c_TooMany Z.i_TooMany Z.j_TooMany
  ec_TooMany : Z.ec "TooMany" = Z.c_TooMany
  sub_BadNumber : ∀ nm r, sub_BadNumber nm = some r → PySem.W.exmOne K (.ref (Z.ec nm)) (.ref Z.c_BadNumber) = some r
  sub_TooMany : ∀ nm r, sub_TooMany nm = some r → PySem.W.exmOne K (.ref (Z.ec nm)) (.ref Z.c_TooMany) = some r
section
variable {P : Program} {w : World} {K : PySem.W.Frag} {mg : Str → Option Value} {base : Heap} {Z : Zs}
theorem ini_BadNumber (T : Txt K mg Z) : FnOk P w K mg base (L2.CX P w) 1 Z.i_BadNumber Z.j_BadNumber ["self", "word"] (spIni1 K "word") :=
  T.x_BadNumber.F.okX sci_BadNumber (fun vs H Q E h => by obtain ⟨a, C, y, e, _⟩ := h; rw [e]; rfl) fun cdv A outer s H vs Q E hr h => ⟨_, pss_cons (ps_ost (pv 0) (pv 1)) pss_nil, ini1_ok rfl (fun a y e => by subst e; exact ⟨rfl, rfl⟩) h⟩
theorem ini_TooMany (T : Txt K mg Z) : FnOk P w K mg base (L2.CX P w) 1 Z.i_TooMany Z.j_TooMany ["self", "limit"] (spIni1 K "limit") :=
  T.x_TooMany.F.okX sci_TooMany (fun vs H Q E h => by obtain ⟨a, C, y, e, _⟩ := h; rw [e]; rfl) fun cdv A outer s H vs Q E hr h => ⟨_, pss_cons (ps_ost (pv 0) (pv 1)) pss_nil, ini1_ok rfl (fun a y e => by subst e; exact ⟨rfl, rfl⟩) h⟩
theorem ok_is_whole (T : Txt K mg Z) : FnOk P w K mg base (L2.CX P w) 1 Z.f_is_whole Z.d_is_whole ["value"] (Spec K Z.ec 1 pre_is_whole f_is_whole post_is_whole ret_is_whole) := by
  refine fn_ok T.d_is_whole.F sc_is_whole rfl m_is_whole fun cdv A outer s H E hr => ?_
  refine ⟨_, (pss_cons (ps_ret (pe_and (pe_callB (r := rIsi K) call_isi (by rfl) T.z_isinstance (by decide +kernel) (pa_cons (pv 0) (pa_cons (pe_bltn (v := .ty "int") (u := .type "int") (by rfl) T.z_int (by decide +kernel) rfl) pa_nil))) (pe_one (pe_not (pe_callB (r := rIsi K) call_isi (by rfl) T.z_isinstance (by decide +kernel) (pa_cons (pv 0) (pa_cons (pe_bltn (v := .ty "bool") (u := .type "bool") (by rfl) T.z_bool (by decide +kernel) rfl) pa_nil)))))))
  pss_nil), ?_⟩
  intro a as _
  change BJ K _ [some (.dat (eD a))] _ _ _ _ _
  refine fun g σ H D hA hm => x_ret ?_
  refine (ev_andV (ev_isi (d := a) .int (ev_var rfl) dpt_d) (ev_notV (ev_isi (d := a) .bool (ev_var rfl) dpt_d))) _ _ _ _ _ hA fun v H hA => ?_
  exact hm v H _ (hA.weak1 (.d .nil) fun j z => nomatch z)
theorem ok_whole_in (T : Txt K mg Z) : FnOk P w K mg base (L2.CX P w) 2 Z.f_whole_in Z.d_whole_in ["value", "low", "high"] (Spec K Z.ec 3 pre_whole_in f_whole_in post_whole_in ret_whole_in) := by
  refine fn_ok T.d_whole_in.F sc_whole_in rfl m_whole_in fun cdv A outer s H E hr => ?_
  refine ⟨_, (pss_cons (ps_ret (pe_and (pe_callS (ok_is_whole T) (hr.mono (by decide)) (by rfl) T.d_is_whole.g T.d_is_whole.F.kp T.d_is_whole.b (fun σ => passAt (takes_of rfl rfl rfl rfl) σ) (pa_cons (pv 0) pa_nil)) (pe_one (pe_chain op_le op_le (pv 1) (pv 0) (pv 2)))))
  pss_nil), ?_⟩
  intro a as _
  change BJ K _ [some (.dat (eD a.1)), some (.dat (eI a.2.1)), some (.dat (eI a.2.2))] _ _ _ _ _
  refine fun g σ H D hA hm => x_ret ?_
  refine f_joinV (fun (s : Bool) => [some (.dat (eD a.1)), some (.dat (eI a.2.1)), some (.dat (eI a.2.2))]) (fun s => .dat (eB s)) hA hm (fun hm => ?_) (fun j1 v H hA hm => ?_)
  ·
    refine x_andV ?_
    refine x_call1 ?_
    refine (ev_var rfl) _ _ _ _ _ hA fun v H hA => ?_
    refine f_call [.d (eD a.1)] a.1 (fun r => []) hA rfl rfl True.intro (fun as h => match as, h with | [], _ => rfl) (fun _ => rfl) (fun r as h => match as, h with | [], _ => rfl) (fun r j z => nomatch z) .nil (hm.bindR.imp (fun r2 hm v H hA => ?_) fun _ q => q)
    refine f_tst (P := fun c H1 => _) hA fun hA => ?_
    refine f_pick hm (fun hm => ?_) (fun hm => ?_)
    ·
      refine x_chain ?_
      refine (ev_var rfl) _ _ _ _ _ hA fun v H hA => ?_
      refine (ev_var rfl) _ _ _ _ _ hA fun v H hA => ?_
      refine f_int hA hm fun t3 hA hm => ?_
      refine f_chain (ev_var rfl) hA fun v H hA => ?_
      exact hm v H hA
    ·
      exact hm _ H (hA.scal fun _ => rfl)
  ·
    replace hA : At K g [some (.dat (eD a.1)), some (.dat (eI a.2.1)), some (.dat (eI a.2.2))] _ _ _ := hA
    exact hm v H _ (hA.weak1 (.d (.d (.d .nil))) fun j z => nomatch z)
theorem ok_check_jobs (T : Txt K mg Z) : FnOk P w K mg base (L2.CX P w) 3 Z.f_check_jobs Z.d_check_jobs ["jobs"] (Spec K Z.ec 1 pre_check_jobs f_check_jobs post_check_jobs ret_check_jobs) := by
  refine fn_okN T.d_check_jobs.F sc_check_jobs rfl m_check_jobs (fun _ => rfl) fun cdv A outer s H E hr => ?_
  refine ⟨_, (pss_cons (ps_if (pt_not (pt_val (pe_callB (r := rIsiT K) call_isiT (by rfl) T.z_isinstance (by decide +kernel) (pa_cons (pv 0) (pa_cons (pe_tup (pa_cons (pe_bltn (v := .ty "list") (u := .type "list") (by rfl) T.z_list (by decide +kernel) rfl) (pa_cons (pe_bltn (v := .ty "tuple") (u := .type "tuple") (by rfl) T.z_tuple (by decide +kernel) rfl) pa_nil))) pa_nil))))) (pss_cons (ps_raise rfl (takes_of rfl rfl rfl rfl) (pmk_oex T.x_BadNumber.oex T.x_BadNumber.iC T.x_BadNumber.tI (ini_BadNumber T) (hr.mono (by decide)) T.x_BadNumber.b .nil passL (by rfl) T.x_BadNumber.g (pa_cons pe_str pa_nil)))
  pss_nil) pss_nil)
  (pss_cons (ps_if (pt_cmpR op_gt (pe_callB (r := rLen K) c_len (by rfl) T.z_len (by decide +kernel) (pa_cons (pv 0) pa_nil)) (pe_gk (by rfl) T.k_MOST_JOBS) (nomark _)) (pss_cons (ps_raise rfl (takes_of rfl rfl rfl rfl) (pmk_oex T.x_TooMany.oex T.x_TooMany.iC T.x_TooMany.tI (ini_TooMany T) (hr.mono (by decide)) T.x_TooMany.b .nil passL (by rfl) T.x_TooMany.g (pa_cons (pe_gk (by rfl) T.k_MOST_JOBS) pa_nil)))
  pss_nil) pss_nil)
  (pss_cons (ps_for (passes_of rfl) rfl (pi_seqV (pv 0)) (pg_name (i := 1) sc_check_jobs.nd rfl (Or.inl rfl)) (pss_cons (ps_if (pw_or (pt_not (pt_val (pe_callB (r := rIsiT K) call_isiT (by rfl) T.z_isinstance (by decide +kernel) (pa_cons (pv 1) (pa_cons (pe_tup (pa_cons (pe_bltn (v := .ty "list") (u := .type "list") (by rfl) T.z_list (by decide +kernel) rfl) (pa_cons (pe_bltn (v := .ty "tuple") (u := .type "tuple") (by rfl) T.z_tuple (by decide +kernel) rfl) pa_nil))) pa_nil))))) (pw_or (pt_cmpR op_ne (pe_callB (r := rLen K) c_len (by rfl) T.z_len (by decide +kernel) (pa_cons (pv 1) pa_nil)) pe_int (nomark _)) (pw_or1 (pt_not (pt_val (pe_callS (ok_whole_in T) (hr.mono (by decide)) (by rfl) T.d_whole_in.g T.d_whole_in.F.kp T.d_whole_in.b (fun σ => passAt (takes_of rfl rfl rfl rfl) σ) (pa_cons (pe_ix (r := rIxQ K) ix_q (pv 1) pe_int (fun _ _ => rfl)) (pa_cons pe_int (pa_cons (pe_gk (by rfl) T.k_MOST_RUNGS) pa_nil))))))))).pt (pss_cons (ps_raise rfl (takes_of rfl rfl rfl rfl) (pmk_oex T.x_BadNumber.oex T.x_BadNumber.iC T.x_BadNumber.tI (ini_BadNumber T) (hr.mono (by decide)) T.x_BadNumber.b .nil passL (by rfl) T.x_BadNumber.g (pa_cons pe_str pa_nil)))
  pss_nil) pss_nil)
  (pss_cons (ps_if (pw_or (pt_not (pt_val (pe_callS (ok_whole_in T) (hr.mono (by decide)) (by rfl) T.d_whole_in.g T.d_whole_in.F.kp T.d_whole_in.b (fun σ => passAt (takes_of rfl rfl rfl rfl) σ) (pa_cons (pe_ix (r := rIxQ K) ix_q (pv 1) pe_int (fun _ _ => rfl)) (pa_cons pe_int (pa_cons (pe_gk (by rfl) T.k_LONGEST_JOB) pa_nil)))))) (pw_or1 (pt_not (pt_val (pe_callS (ok_whole_in T) (hr.mono (by decide)) (by rfl) T.d_whole_in.g T.d_whole_in.F.kp T.d_whole_in.b (fun σ => passAt (takes_of rfl rfl rfl rfl) σ) (pa_cons (pe_ix (r := rIxQ K) ix_q (pv 1) pe_int (fun _ _ => rfl)) (pa_cons pe_int (pa_cons (pe_op op_sub (pe_ix (r := rIxQ K) ix_q (pv 1) pe_int (fun _ _ => rfl)) pe_int) pa_nil)))))))).pt (pss_cons (ps_raise rfl (takes_of rfl rfl rfl rfl) (pmk_oex T.x_BadNumber.oex T.x_BadNumber.iC T.x_BadNumber.tI (ini_BadNumber T) (hr.mono (by decide)) T.x_BadNumber.b .nil passL (by rfl) T.x_BadNumber.g (pa_cons pe_str pa_nil)))
  pss_nil) pss_nil)
  pss_nil)))
  pss_nil))), ?_⟩
  intro a as _
  change BJ K _ [some (.dat (eD a)), none] _ _ _ _ _
  refine bj_ifL (evb_not (evb_B (ev_isiT (d := a) .list .tuple (ev_var rfl) dpt_d))) ?_ ?_
  ·
    refine bj_assoc ?_
    exact bj_raise1 (cn := "BadNumber") (dv := (PyData.str ("jobs" : Str))) T.ec_BadNumber T.x_BadNumber.oex (T.x_BadNumber.no _ (by decide)) rfl .nil (ev_box bx_s ev_str)
  ·
    refine bj_pass ?_
    refine fun g σ H D hA hm => x_ifS ?_
    refine x_test ?_
    refine x_op ?_
    refine x_cb1 ?_
    refine (ev_var rfl) _ _ _ _ _ hA fun v H hA => ?_
    refine f_o1m o1_lenD hA hm fun t1 v H hA hm => ?_
    refine ev_int _ _ _ _ _ hA fun v H hA => ?_
    refine o2_c0 _ _ _ _ _ _ _ hA fun v H hA => ?_
    refine f_tst (P := fun c H1 => _) hA fun hA => ?_
    refine f_ifS hm (fun hm => ?_) (fun hm => ?_)
    ·
      refine bj_go hA hm ?_
      change BJ K _ [some (.dat (eD a)), none] _ _ _ _ _
      refine bj_assoc ?_
      exact bj_raise1 (cn := "TooMany") (dv := (PyData.int (5 : Int))) T.ec_TooMany T.x_TooMany.oex (T.x_TooMany.no _ (by decide)) rfl .nil (ev_box bx_i ev_int)
    ·
      refine bj_go hA hm ?_
      change BJ K _ [some (.dat (eD a)), none] _ _ _ _ _
      refine bj_pass ?_
      refine fun g σ H D hA hm => ?_
      refine x_forD ?_
      refine (ev_var rfl) _ _ _ _ _ hA fun v H hA => ?_
      refine wk_seq hA hm fun l2 hm => f_for (e := eD) (fun (s3 : Unit) => [none, none]) (s0 := ()) (.d (.d .nil)) hm (hb_of (e := eD) (js := [1]) (ps := fun b4 => [eD b4]) (fun b => tj_name) (hjl (n := 2) (fun s => rfl) (by decide)) (fun s3 b4 => ?_)) (fun s3 => ?_)
      ·
        change BJ K _ [none, some (.dat (eD b4))] _ _ _ _ _
        refine fun g σ H D hA hm => x_ifS ?_
        refine f_joinT (fun (s : Bool) => [none, some (.dat (eD b4))]) (fun s => s) hA hm (fun hm => ?_) (fun j5 H hA hm => ?_)
        ·
          refine x_orT ?_
          refine (evb_not (evb_B (ev_isiT (d := b4) .list .tuple (ev_var rfl) dpt_d))) _ _ _ _ _ hA fun H hA => ?_
          refine f_pick hm (fun hm => ?_) (fun hm => ?_)
          ·
            exact hm H hA
          ·
            refine x_orT ?_
            refine x_test ?_
            refine x_op ?_
            refine x_cb1 ?_
            refine (ev_var rfl) _ _ _ _ _ hA fun v H hA => ?_
            refine f_o1m o1_lenD hA hm fun t6 v H hA hm => ?_
            refine ev_int _ _ _ _ _ hA fun v H hA => ?_
            refine o2_neI _ _ _ _ _ _ _ hA fun v H hA => ?_
            refine f_tst (P := fun c H1 => _) hA fun hA => ?_
            refine f_pick hm (fun hm => ?_) (fun hm => ?_)
            ·
              exact hm H hA
            ·
              refine x_not ?_
              refine x_B ?_
              refine x_call3 ?_
              refine x_op ?_
              refine (ev_var rfl) _ _ _ _ _ hA fun v H hA => ?_
              refine ev_int _ _ _ _ _ hA fun v H hA => ?_
              refine f_o2m o2_atD hA hm fun t7 v H hA hm => ?_
              refine ev_int _ _ _ _ _ hA fun v H hA => ?_
              refine ev_int _ _ _ _ _ hA fun v H hA => ?_
              refine f_call [.d (eD t7), .d (eI (1 : Int)), .d (eI (12 : Int))] (t7, (1 : Int), (12 : Int)) (fun r => []) hA rfl rfl True.intro (fun as h => match as, h with | [], _ => rfl) (fun _ => rfl) (fun r as h => match as, h with | [], _ => rfl) (fun r j z => nomatch z) .nil (hm.bindR.imp (fun r8 hm v H hA => ?_) fun _ q => q)
              refine f_tst (P := fun c H1 => _) hA fun hA => ?_
              exact hm H hA
        ·
          replace hA : At K g [none, some (.dat (eD b4))] _ _ _ := hA
          refine f_ifS hm (fun hm => ?_) (fun hm => ?_)
          ·
            refine bj_go hA hm ?_
            change BJ K _ [none, some (.dat (eD b4))] _ _ _ _ _
            refine bj_assoc ?_
            exact bj_raise1 (cn := "BadNumber") (dv := (PyData.str ("jobs" : Str))) T.ec_BadNumber T.x_BadNumber.oex (T.x_BadNumber.no _ (by decide)) rfl .nil (ev_box bx_s ev_str)
          ·
            refine bj_go hA hm ?_
            change BJ K _ [none, some (.dat (eD b4))] _ _ _ _ _
            refine bj_pass ?_
            refine fun g σ H D hA hm => x_ifS ?_
            refine f_joinT (fun (s : Bool) => [none, some (.dat (eD b4))]) (fun s => s) hA hm (fun hm => ?_) (fun j9 H hA hm => ?_)
            ·
              refine x_orT ?_
              refine x_not ?_
              refine x_B ?_
              refine x_call3 ?_
              refine x_op ?_
              refine (ev_var rfl) _ _ _ _ _ hA fun v H hA => ?_
              refine ev_int _ _ _ _ _ hA fun v H hA => ?_
              refine f_o2m o2_atD hA hm fun t10 v H hA hm => ?_
              refine ev_int _ _ _ _ _ hA fun v H hA => ?_
              refine ev_int _ _ _ _ _ hA fun v H hA => ?_
              refine f_call [.d (eD t10), .d (eI (1 : Int)), .d (eI (24 : Int))] (t10, (1 : Int), (24 : Int)) (fun r => []) hA rfl rfl True.intro (fun as h => match as, h with | [], _ => rfl) (fun _ => rfl) (fun r as h => match as, h with | [], _ => rfl) (fun r j z => nomatch z) .nil (hm.bindR.imp (fun r11 hm v H hA => ?_) fun _ q => q)
              refine f_tst (P := fun c H1 => _) hA fun hA => ?_
              refine f_pick hm (fun hm => ?_) (fun hm => ?_)
              ·
                exact hm H hA
              ·
                refine x_not ?_
                refine x_B ?_
                refine x_call3 ?_
                refine x_op ?_
                refine (ev_var rfl) _ _ _ _ _ hA fun v H hA => ?_
                refine ev_int _ _ _ _ _ hA fun v H hA => ?_
                refine f_o2m o2_atD hA hm fun t12 v H hA hm => ?_
                refine ev_int _ _ _ _ _ hA fun v H hA => ?_
                refine x_op ?_
                refine x_op ?_
                refine (ev_var rfl) _ _ _ _ _ hA fun v H hA => ?_
                refine ev_int _ _ _ _ _ hA fun v H hA => ?_
                refine f_o2m o2_atD hA hm fun t13 v H hA hm => ?_
                refine ev_int _ _ _ _ _ hA fun v H hA => ?_
                refine f_int1 hA hm fun t14 hA hm => ?_
                refine o2_i0 _ _ _ _ _ _ _ hA fun v H hA => ?_
                refine f_call [.d (eD t12), .d (eI (0 : Int)), .d (eI (t14 - (1 : Int)))] (t12, (0 : Int), (t14 - (1 : Int))) (fun r => []) hA rfl rfl True.intro (fun as h => match as, h with | [], _ => rfl) (fun _ => rfl) (fun r as h => match as, h with | [], _ => rfl) (fun r j z => nomatch z) .nil (hm.bindR.imp (fun r15 hm v H hA => ?_) fun _ q => q)
                refine f_tst (P := fun c H1 => _) hA fun hA => ?_
                exact hm H hA
            ·
              replace hA : At K g [none, some (.dat (eD b4))] _ _ _ := hA
              refine f_ifS hm (fun hm => ?_) (fun hm => ?_)
              ·
                refine bj_go hA hm ?_
                change BJ K _ [none, some (.dat (eD b4))] _ _ _ _ _
                refine bj_assoc ?_
                exact bj_raise1 (cn := "BadNumber") (dv := (PyData.str ("jobs" : Str))) T.ec_BadNumber T.x_BadNumber.oex (T.x_BadNumber.no _ (by decide)) rfl .nil (ev_box bx_s ev_str)
              ·
                refine bj_go hA hm ?_
                change BJ K _ [none, some (.dat (eD b4))] _ _ _ _ _
                refine bj_pass ?_
                exact bj_nx (a := ()) (.d (.d .nil))
      ·
        change BJ K _ [none, none] _ _ _ _ _
        exact bj_nx (a := ()) (.d .nil)
theorem ok_check_job_place (T : Txt K mg Z) : FnOk P w K mg base (L2.CX P w) 3 Z.f_check_job_place Z.d_check_job_place ["jobs", "place"] (Spec K Z.ec 2 pre_check_job_place f_check_job_place post_check_job_place ret_check_job_place) := by
  refine fn_okN T.d_check_job_place.F sc_check_job_place rfl m_check_job_place (fun _ => rfl) fun cdv A outer s H E hr => ?_
  refine ⟨_, (pss_cons (ps_if (pt_not (pt_val (pe_callS (ok_whole_in T) (hr.mono (by decide)) (by rfl) T.d_whole_in.g T.d_whole_in.F.kp T.d_whole_in.b (fun σ => passAt (takes_of rfl rfl rfl rfl) σ) (pa_cons (pv 1) (pa_cons pe_int (pa_cons (pe_op op_sub (pe_callB (r := rLen K) c_len (by rfl) T.z_len (by decide +kernel) (pa_cons (pv 0) pa_nil)) pe_int) pa_nil)))))) (pss_cons (ps_raise rfl (takes_of rfl rfl rfl rfl) (pmk_oex T.x_BadNumber.oex T.x_BadNumber.iC T.x_BadNumber.tI (ini_BadNumber T) (hr.mono (by decide)) T.x_BadNumber.b .nil passL (by rfl) T.x_BadNumber.g (pa_cons pe_str pa_nil)))
  pss_nil) pss_nil)
  pss_nil), ?_⟩
  intro a as _
  change BJ K _ [some (.dat (eD a.1)), some (.dat (eI a.2))] _ _ _ _ _
  refine fun g σ H D hA hm => x_ifS ?_
  refine x_not ?_
  refine x_B ?_
  refine x_call3 ?_
  refine (ev_var rfl) _ _ _ _ _ hA fun v H hA => ?_
  replace hA := hA.box (Bx.hd (x := a.2) bx_i)
  refine ev_int _ _ _ _ _ hA fun v H hA => ?_
  refine x_op ?_
  refine x_cb1 ?_
  refine (ev_var rfl) _ _ _ _ _ hA fun v H hA => ?_
  refine f_o1m o1_lenD hA hm fun t1 v H hA hm => ?_
  refine ev_int _ _ _ _ _ hA fun v H hA => ?_
  refine o2_i0 _ _ _ _ _ _ _ hA fun v H hA => ?_
  refine f_call [.d (eD (PyData.int a.2)), .d (eI (0 : Int)), .d (eI (t1 - (1 : Int)))] ((PyData.int a.2), (0 : Int), (t1 - (1 : Int))) (fun r => []) hA rfl rfl True.intro (fun as h => match as, h with | [], _ => rfl) (fun _ => rfl) (fun r as h => match as, h with | [], _ => rfl) (fun r j z => nomatch z) .nil (hm.bindR.imp (fun r2 hm v H hA => ?_) fun _ q => q)
  refine f_tst (P := fun c H1 => _) hA fun hA => ?_
  refine f_ifS hm (fun hm => ?_) (fun hm => ?_)
  ·
    refine bj_go hA hm ?_
    change BJ K _ [some (.dat (eD a.1)), some (.dat (eI a.2))] _ _ _ _ _
    refine bj_assoc ?_
    exact bj_raise1 (cn := "BadNumber") (dv := (PyData.str ("place" : Str))) T.ec_BadNumber T.x_BadNumber.oex (T.x_BadNumber.no _ (by decide)) rfl .nil (ev_box bx_s ev_str)
  ·
    refine bj_go hA hm ?_
    change BJ K _ [some (.dat (eD a.1)), some (.dat (eI a.2))] _ _ _ _ _
    refine bj_pass ?_
    exact bj_nx (a := ()) (.d (.d .nil))
theorem ok_common_period (T : Txt K mg Z) : FnOk P w K mg base (L2.CX P w) 1 Z.f_common_period Z.d_common_period ["jobs"] (Spec K Z.ec 1 pre_common_period f_common_period post_common_period ret_common_period) := by
  refine fn_ok T.d_common_period.F sc_common_period rfl m_common_period fun cdv A outer s H E hr => ?_
  refine ⟨_, (pss_cons (ps_set (i := 1) sc_common_period.nd rfl (Or.inl rfl) pe_int)
  (pss_cons (ps_for (passes_of rfl) rfl (pi_seqV (pv 0)) (pg_name (i := 2) sc_common_period.nd rfl (Or.inl rfl)) (pss_cons (ps_set (i := 1) sc_common_period.nd rfl (Or.inl rfl) (pe_callBfun cr_lcm (by rfl) T.i_lcm (pa_cons (pv 1) (pa_cons (pe_ix (r := rIxQ K) ix_q (pv 2) pe_int (fun _ _ => rfl)) pa_nil))))
  pss_nil))
  (pss_cons (ps_ret (pv 1))
  pss_nil))), ?_⟩
  intro a as _
  change BJ K _ [some (.dat (eD a)), none, none] _ _ _ _ _
  refine fun g σ H D hA hm => x_asg ?_
  refine ev_int _ _ _ _ _ hA fun v H hA => ?_
  refine f_setlt (e := (1 : Int)) (fun t => .dat (eI t)) hA (fun t j z => nomatch z) rfl hm (fun common_1 => ?_)
  change BJ K _ [some (.dat (eD a)), some (.dat (eI common_1)), none] _ _ _ _ _
  refine fun g σ H D hA hm => ?_
  refine x_forD ?_
  refine (ev_var rfl) _ _ _ _ _ hA fun v H hA => ?_
  refine wk_seq hA hm fun l2 hm => f_for (e := eD) (fun (s3 : Int) => [none, some (.dat (eI s3)), none]) (s0 := common_1) (.d (.s (.d .nil))) hm (hb_of (e := eD) (js := [2]) (ps := fun b4 => [eD b4]) (fun b => tj_name) (hjl (n := 3) (fun s => rfl) (by decide)) (fun s3 b4 => ?_)) (fun s3 => ?_)
  ·
    change BJ K _ [none, some (.dat (eI s3)), some (.dat (eD b4))] _ _ _ _ _
    refine fun g σ H D hA hm => x_asg ?_
    refine x_cb2 ?_
    refine (ev_var rfl) _ _ _ _ _ hA fun v H hA => ?_
    refine x_op ?_
    refine (ev_var rfl) _ _ _ _ _ hA fun v H hA => ?_
    refine ev_int _ _ _ _ _ hA fun v H hA => ?_
    refine f_o2m o2_atD hA hm fun t5 v H hA hm => ?_
    refine f_int hA hm fun t6 hA hm => ?_
    refine f_o2m o2_lcm hA hm fun t7 v H hA hm => ?_
    refine f_setgo hA (fun j z => nomatch z) rfl hm ?_
    change BJ K _ [none, some (.dat (eI t7)), some (.dat (eD b4))] _ _ _ _ _
    exact bj_nx (a := t7) (.d (.s (.d .nil)))
  ·
    change BJ K _ [none, some (.dat (eI s3)), none] _ _ _ _ _
    refine fun g σ H D hA hm => x_ret ?_
    refine (ev_var rfl) _ _ _ _ _ hA fun v H hA => ?_
    exact hm v H _ (hA.weak1 (.d .nil) fun j z => nomatch z)
theorem ok_jobs_come (T : Txt K mg Z) : FnOk P w K mg base (L2.CX P w) 1 Z.f_jobs_come Z.d_jobs_come ["jobs", "left", "tick"] (Spec K Z.ec 3 pre_jobs_come f_jobs_come post_jobs_come ret_jobs_come) := by
  refine fn_ok T.d_jobs_come.F sc_jobs_come rfl m_jobs_come fun cdv A outer s H E hr => ?_
  refine ⟨_, (pss_cons (ps_set (i := 3) sc_jobs_come.nd rfl (Or.inl rfl) pe_non)
  (pss_cons (ps_for (passes_of rfl) rfl (pi_enumQ (by rfl) T.z_enumerate (pv 0)) (pg_tup rfl (pgs_cons (pg_name (i := 4) sc_jobs_come.nd rfl (Or.inl rfl)) (pgs_cons (pg_seq rfl (pgs_cons (pg_name (i := 5) sc_jobs_come.nd rfl (Or.inl rfl)) (pgs_cons (pg_name (i := 6) sc_jobs_come.nd rfl (Or.inl rfl)) (pgs_cons (pg_name (i := 7) sc_jobs_come.nd rfl (Or.inl rfl)) pgs_nil)))) pgs_nil))) (pss_cons (ps_if (pt_cmpR op_eq (pe_op op_mod (pv 2) (pv 6)) (pv 7) (nomark _)) (pss_cons (ps_if (pw_and (pt_cmpR op_gt (pe_ix (r := rIxL K) ix_list (pv 1) (pv 4) (fun _ _ => rfl)) pe_int (nomark _)) (pw_and1 (pt_cmpR p_isN (pv 3) pe_non (nomark _)))).pt (pss_cons (ps_set (i := 3) sc_jobs_come.nd rfl (Or.inl rfl) (pv 4))
  pss_nil) pss_nil)
  (pss_cons (ps_augS (tget := rIxL K) (pv 1) (pv 4) gt_list (pv 5) ip_add set_list)
  pss_nil)) pss_nil)
  pss_nil))
  (pss_cons (ps_ret (pv 3))
  pss_nil))), ?_⟩
  intro a as _
  change BJ K _ [some (.dat (eD a.1)), some (.own (as[0]?) (.lst (List.map eI a.2.1))), some (.dat (eI a.2.2)), none, none, none, none, none] _ _ _ _ _
  refine fun g σ H D hA hm => x_asg ?_
  refine ev_non _ _ _ _ _ hA fun v H hA => ?_
  refine f_setgo hA (fun j z => nomatch z) rfl hm ?_
  change BJ K _ [some (.dat (eD a.1)), some (.own (as[0]?) (.lst (List.map eI a.2.1))), some (.dat (eI a.2.2)), some (.dat ((eO eI) none)), none, none, none, none] _ _ _ _ _
  refine fun g σ H D hA hm => ?_
  refine x_forE ?_
  refine (ev_var rfl) _ _ _ _ _ hA fun v H hA => ?_
  refine wk_enumD hA hm fun l1 hm => f_for (e := (eP2 eI eD)) (fun (s2 : ((List Int) × (Option Int))) => [none, some (.own (as[0]?) (.lst (List.map eI s2.1))), some (.dat (eI a.2.2)), some (.dat ((eO eI) s2.2)), none, none, none, none]) (s0 := (a.2.1, none)) (.d (.s (.s (.s (.d (.d (.d (.d .nil)))))))) hm (fun s2 b3 g σ H D v hA hm => ?_) (fun s2 => ?_)
  ·
    refine f_unp3I 1 rfl hA hm fun q4 hA hm => ?_
    refine f_wintI 1 0 rfl rfl hA hm fun t5 hA hm => ?_
    refine f_wintI 1 1 rfl rfl hA hm fun t6 hA hm => ?_
    refine f_wintI 1 2 rfl rfl hA hm fun t7 hA hm => ?_
    refine (tj_tup (tjs_cons tj_name (tjs_cons (tj_seq (qs := [eI t5, eI t6, eI t7]) (tjs_cons tj_name (tjs_cons tj_name (tjs_cons tj_name tjs_nil))) rfl) tjs_nil)) rfl).2 _ _ _ _ _ _ _ (hjl (sT := Unit) (Gl := fun _ => [none, some (.own (as[0]?) (.lst (List.map eI s2.1))), some (.dat (eI a.2.2)), some (.dat ((eO eI) s2.2)), none, none, none, none]) (js := [4, 5, 6, 7]) (n := 8) (fun _ => rfl) (by decide) ()) (by intro y hy; cases hy) hA fun vs H _ hA => ?_
    replace hA : At K g [none, some (.own (as[0]?) (.lst (List.map eI s2.1))), some (.dat (eI a.2.2)), some (.dat ((eO eI) s2.2)), some (.dat (eI b3.1)), some (.dat (eI t5)), some (.dat (eI t6)), some (.dat (eI t7))] _ _ _ := hA
    refine bj_go hA hm ?_
    refine fun g σ H D hA hm => x_ifS ?_
    refine x_test ?_
    refine x_op ?_
    refine x_op ?_
    refine (ev_var rfl) _ _ _ _ _ hA fun v H hA => ?_
    refine (ev_var rfl) _ _ _ _ _ hA fun v H hA => ?_
    refine f_o2m o2_mod hA hm fun t8 v H hA hm => ?_
    refine (ev_var rfl) _ _ _ _ _ hA fun v H hA => ?_
    refine o2_eqI _ _ _ _ _ _ _ hA fun v H hA => ?_
    refine f_tst (P := fun c H1 => _) hA fun hA => ?_
    refine f_ifS hm (fun hm => ?_) (fun hm => ?_)
    ·
      refine bj_go hA hm ?_
      change BJ K _ [none, some (.own (as[0]?) (.lst (List.map eI s2.1))), some (.dat (eI a.2.2)), some (.dat ((eO eI) s2.2)), some (.dat (eI b3.1)), some (.dat (eI t5)), some (.dat (eI t6)), some (.dat (eI t7))] _ _ _ _ _
      refine bj_assoc ?_
      refine bj_seq (n1 := fun (s9 : (Option Int)) => [none, some (.own (as[0]?) (.lst (List.map eI s2.1))), some (.dat (eI a.2.2)), some (.dat ((eO eI) s9)), some (.dat (eI b3.1)), some (.dat (eI t5)), none, none]) ?_ (fun s9 => ?_)
      ·
        refine fun g σ H D hA hm => x_ifB ?_
        refine f_joinT (fun (s : Bool) => [none, some (.own (as[0]?) (.lst (List.map eI s2.1))), some (.dat (eI a.2.2)), some (.dat ((eO eI) s2.2)), some (.dat (eI b3.1)), some (.dat (eI t5)), some (.dat (eI t6)), some (.dat (eI t7))]) (fun s => s) hA hm (fun hm => ?_) (fun j10 H hA hm => ?_)
        ·
          refine x_andT ?_
          refine x_test ?_
          refine x_op ?_
          refine x_op ?_
          refine (ev_own rfl) _ _ _ _ _ hA fun v H hA => ?_
          refine (ev_var rfl) _ _ _ _ _ hA fun v H hA => ?_
          refine f_o2m (o2_idxL (xs := s2.1) (e := eI) (.als rfl)) hA hm fun t11 v H hA hm => ?_
          refine ev_int _ _ _ _ _ hA fun v H hA => ?_
          refine o2_c0 _ _ _ _ _ _ _ hA fun v H hA => ?_
          refine f_tst (P := fun c H1 => _) hA fun hA => ?_
          refine f_pick hm (fun hm => ?_) (fun hm => ?_)
          ·
            refine (evb_test (ev_op (ev_var rfl) ev_non (o2_isN nn_i))) _ _ _ _ _ hA fun H hA => ?_
            exact hm H hA
          ·
            exact hm H hA
        ·
          replace hA : At K g [none, some (.own (as[0]?) (.lst (List.map eI s2.1))), some (.dat (eI a.2.2)), some (.dat ((eO eI) s2.2)), some (.dat (eI b3.1)), some (.dat (eI t5)), some (.dat (eI t6)), some (.dat (eI t7))] _ _ _ := hA
          refine f_pick hm (fun hm => ?_) (fun hm => ?_)
          ·
            refine bj_go hA hm ?_
            change BJ K _ [none, some (.own (as[0]?) (.lst (List.map eI s2.1))), some (.dat (eI a.2.2)), some (.dat ((eO eI) s2.2)), some (.dat (eI b3.1)), some (.dat (eI t5)), some (.dat (eI t6)), some (.dat (eI t7))] _ _ _ _ _
            refine fun g σ H D hA hm => x_asg ?_
            refine (ev_var rfl) _ _ _ _ _ hA fun v H hA => ?_
            refine f_setlt (e := (some b3.1)) (fun t => .dat ((eO eI) t)) hA (fun t j z => nomatch z) rfl hm (fun missed_12 => ?_)
            change BJ K _ [none, some (.own (as[0]?) (.lst (List.map eI s2.1))), some (.dat (eI a.2.2)), some (.dat ((eO eI) missed_12)), some (.dat (eI b3.1)), some (.dat (eI t5)), some (.dat (eI t6)), some (.dat (eI t7))] _ _ _ _ _
            exact bj_nx (a := missed_12) (.d (.s (.s (.s (.s (.s (.d (.d .nil))))))))
          ·
            refine bj_go hA hm ?_
            change BJ K _ [none, some (.own (as[0]?) (.lst (List.map eI s2.1))), some (.dat (eI a.2.2)), some (.dat ((eO eI) s2.2)), some (.dat (eI b3.1)), some (.dat (eI t5)), some (.dat (eI t6)), some (.dat (eI t7))] _ _ _ _ _
            exact bj_nx (a := s2.2) (.d (.s (.s (.s (.s (.s (.d (.d .nil))))))))
      ·
        change BJ K _ [none, some (.own (as[0]?) (.lst (List.map eI s2.1))), some (.dat (eI a.2.2)), some (.dat ((eO eI) s9)), some (.dat (eI b3.1)), some (.dat (eI t5)), none, none] _ _ _ _ _
        refine bj_assoc ?_
        refine fun g σ H D hA hm => x_augS ?_
        refine (ev_own rfl) _ _ _ _ _ hA fun v H hA => ?_
        refine (ev_var rfl) _ _ _ _ _ hA fun v H hA => ?_
        refine f_augGet (xs := s2.1) (e := eI) rfl hA hm fun t13 v hA hm => ?_
        refine (ev_var rfl) _ _ _ _ _ hA fun v H hA => ?_
        refine f_ip hA fun v H hA => ?_
        refine f_augSet (xs := s2.1) (e := eI) rfl hA hm fun ys14 H hA hm => ?_
        refine bj_go hA hm ?_
        change BJ K _ [none, some (.own (as[0]?) (.lst (List.map eI ys14))), some (.dat (eI a.2.2)), some (.dat ((eO eI) s9)), some (.dat (eI b3.1)), some (.dat (eI t5)), none, none] _ _ _ _ _
        refine bj_pass ?_
        exact bj_nx (a := (ys14, s9)) (.d (.s (.s (.s (.d (.d (.d (.d .nil))))))))
    ·
      refine bj_go hA hm ?_
      change BJ K _ [none, some (.own (as[0]?) (.lst (List.map eI s2.1))), some (.dat (eI a.2.2)), some (.dat ((eO eI) s2.2)), some (.dat (eI b3.1)), some (.dat (eI t5)), some (.dat (eI t6)), some (.dat (eI t7))] _ _ _ _ _
      refine bj_pass ?_
      exact bj_nx (a := (s2.1, s2.2)) (.d (.s (.s (.s (.d (.d (.d (.d .nil))))))))
  ·
    change BJ K _ [none, some (.own (as[0]?) (.lst (List.map eI s2.1))), some (.dat (eI a.2.2)), some (.dat ((eO eI) s2.2)), none, none, none, none] _ _ _ _ _
    refine fun g σ H D hA hm => x_ret ?_
    refine (ev_var rfl) _ _ _ _ _ hA fun v H hA => ?_
    exact hm v H _ (hA.weak1 (.d (.s (.d .nil))) fun j z => nomatch z)
theorem ok_run_one_rung (T : Txt K mg Z) : FnOk P w K mg base (L2.CX P w) 1 Z.f_run_one_rung Z.d_run_one_rung ["left"] (Spec K Z.ec 1 pre_run_one_rung f_run_one_rung post_run_one_rung ret_run_one_rung) := by
  refine fn_ok T.d_run_one_rung.F sc_run_one_rung rfl m_run_one_rung fun cdv A outer s H E hr => ?_
  refine ⟨_, (pss_cons (ps_for (passes_of rfl) rfl (pi_range1 (by rfl) T.z_range (pa_cons (pe_callB (r := rLen K) c_len (by rfl) T.z_len (by decide +kernel) (pa_cons (pv 0) pa_nil)) pa_nil)) (pg_name (i := 1) sc_run_one_rung.nd rfl (Or.inl rfl)) (pss_cons (ps_if (pt_cmpR op_gt (pe_ix (r := rIxL K) ix_list (pv 0) (pv 1) (fun _ _ => rfl)) pe_int (nomark _)) (pss_cons (ps_augS (tget := rIxL K) (pv 0) (pv 1) gt_list pe_int ip_sub set_list)
  (pss_cons (ps_ret (pv 1))
  pss_nil)) pss_nil)
  pss_nil))
  (pss_cons (ps_ret (pe_un un_neg pe_int))
  pss_nil)), ?_⟩
  intro a as _
  change BJ K _ [some (.own (as[0]?) (.lst (List.map eI a))), none] _ _ _ _ _
  refine fun g σ H D hA hm => ?_
  refine x_forR1 ?_
  refine (ev_cb1 (ev_own rfl) (o1_lenT a eI (.l (.als rfl)))) _ _ _ _ _ hA fun v H hA => ?_
  refine f_rng1 (b := ((a).length : Int)) hA hm fun hm => f_for (e := eI) (fun (s2 : (List Int)) => [some (.own (as[0]?) (.lst (List.map eI s2))), none]) (s0 := a) (.s (.d .nil)) hm (hb_of (e := eI) (js := [1]) (ps := fun b3 => [eI b3]) (fun b => tj_name) (hjl (n := 2) (fun s => rfl) (by decide)) (fun s2 b3 => ?_)) (fun s2 => ?_)
  ·
    change BJ K _ [some (.own (as[0]?) (.lst (List.map eI s2))), some (.dat (eI b3))] _ _ _ _ _
    refine fun g σ H D hA hm => x_ifS ?_
    refine x_test ?_
    refine x_op ?_
    refine x_op ?_
    refine (ev_own rfl) _ _ _ _ _ hA fun v H hA => ?_
    refine (ev_var rfl) _ _ _ _ _ hA fun v H hA => ?_
    refine f_o2m (o2_idxL (xs := s2) (e := eI) (.als rfl)) hA hm fun t4 v H hA hm => ?_
    refine ev_int _ _ _ _ _ hA fun v H hA => ?_
    refine o2_c0 _ _ _ _ _ _ _ hA fun v H hA => ?_
    refine f_tst (P := fun c H1 => _) hA fun hA => ?_
    refine f_ifS hm (fun hm => ?_) (fun hm => ?_)
    ·
      refine bj_go hA hm ?_
      change BJ K _ [some (.own (as[0]?) (.lst (List.map eI s2))), some (.dat (eI b3))] _ _ _ _ _
      refine bj_assoc ?_
      refine fun g σ H D hA hm => x_augS ?_
      refine (ev_own rfl) _ _ _ _ _ hA fun v H hA => ?_
      refine (ev_var rfl) _ _ _ _ _ hA fun v H hA => ?_
      refine f_augGet (xs := s2) (e := eI) rfl hA hm fun t5 v hA hm => ?_
      refine ev_int _ _ _ _ _ hA fun v H hA => ?_
      refine f_ip hA fun v H hA => ?_
      refine f_augSet (xs := s2) (e := eI) rfl hA hm fun ys6 H hA hm => ?_
      refine bj_go hA hm ?_
      change BJ K _ [some (.own (as[0]?) (.lst (List.map eI ys6))), some (.dat (eI b3))] _ _ _ _ _
      refine bj_assoc ?_
      refine fun g σ H D hA hm => x_ret ?_
      refine (ev_var rfl) _ _ _ _ _ hA fun v H hA => ?_
      exact hm v H _ (hA.weak1 (.s .nil) fun j z => nomatch z)
    ·
      refine bj_go hA hm ?_
      change BJ K _ [some (.own (as[0]?) (.lst (List.map eI s2))), some (.dat (eI b3))] _ _ _ _ _
      refine bj_pass ?_
      exact bj_nx (a := s2) (.s (.d .nil))
  ·
    change BJ K _ [some (.own (as[0]?) (.lst (List.map eI s2))), none] _ _ _ _ _
    refine fun g σ H D hA hm => x_ret ?_
    refine (ev_un ev_int o1_neg) _ _ _ _ _ hA fun v H hA => ?_
    exact hm v H _ (hA.weak1 (.s .nil) fun j z => nomatch z)
theorem ok_first_miss (T : Txt K mg Z) : FnOk P w K mg base (L2.CX P w) 4 Z.f_first_miss Z.d_first_miss ["jobs"] (Spec K Z.ec 1 pre_first_miss f_first_miss post_first_miss ret_first_miss) := by
  refine fn_ok T.d_first_miss.F sc_first_miss rfl m_first_miss fun cdv A outer s H E hr => ?_
  refine ⟨_, (pss_cons (ps_expr (pe_callS (ok_check_jobs T) (hr.mono (by decide)) (by rfl) T.d_check_jobs.g T.d_check_jobs.F.kp T.d_check_jobs.b (fun σ => passAt (takes_of rfl rfl rfl rfl) σ) (pa_cons (pv 0) pa_nil)))
  (pss_cons (ps_set (i := 1) sc_first_miss.nd rfl (Or.inl rfl) (pe_callS (ok_common_period T) (hr.mono (by decide)) (by rfl) T.d_common_period.g T.d_common_period.F.kp T.d_common_period.b (fun σ => passAt (takes_of rfl rfl rfl rfl) σ) (pa_cons (pv 0) pa_nil)))
  (pss_cons (ps_setLc (i := 2) (own := [("_", 6)]) (g := gName 6) rfl sc_first_miss.nd rfl rfl (sw_true rfl rfl rfl (by decide +kernel)) (pi_seqV (pv 0)) (blkOk_by (N := ["jobs", "common", "left", "seen", "tick", "missed", "_"]) (sc := defScope st_first_miss) (by decide +kernel)) (fun _ _ _ _ _ => (pg_name (i := 6) sc_first_miss.nd rfl (Or.inl rfl))) (fun _ _ _ _ _ => pts_nil) (fun _ _ _ _ _ => pe_int))
  (pss_cons (ps_set (i := 3) sc_first_miss.nd rfl (Or.inl rfl) pe_non)
  (pss_cons (ps_set (i := 4) sc_first_miss.nd rfl (Or.inl rfl) pe_int)
  (pss_cons (ps_while (passes_of rfl) (pt_val pe_bl) (pss_cons (ps_if (pt_cmpR op_eq (pe_op op_mod (pv 4) (pv 1)) pe_int (nomark _)) (pss_cons (ps_if (pt_cmpR (r := rEqD K) (op_eqD hr.units) (pv 3) (pv 2) (nomark _)) (pss_cons (ps_ret pe_non)
  pss_nil) pss_nil)
  (pss_cons (ps_set (i := 3) sc_first_miss.nd rfl (Or.inl rfl) (pe_callTy (r := rList K) c_list (by rfl) T.z_list (by decide +kernel) (pa_cons (pv 2) pa_nil)))
  pss_nil)) pss_nil)
  (pss_cons (ps_set (i := 5) sc_first_miss.nd rfl (Or.inl rfl) (pe_callS (ok_jobs_come T) (hr.mono (by decide)) (by rfl) T.d_jobs_come.g T.d_jobs_come.F.kp T.d_jobs_come.b (fun σ => passAt (takes_of rfl rfl rfl rfl) σ) (pa_cons (pv 0) (pa_cons (pv 2) (pa_cons (pv 4) pa_nil)))))
  (pss_cons (ps_if (pt_cmpR p_notN (pv 5) pe_non (nomark _)) (pss_cons (ps_ret (pe_tup (pa_cons (pv 5) (pa_cons (pv 4) pa_nil))))
  pss_nil) pss_nil)
  (pss_cons (ps_expr (pe_callS (ok_run_one_rung T) (hr.mono (by decide)) (by rfl) T.d_run_one_rung.g T.d_run_one_rung.F.kp T.d_run_one_rung.b (fun σ => passAt (takes_of rfl rfl rfl rfl) σ) (pa_cons (pv 2) pa_nil)))
  (pss_cons (ps_aug (i := 4) sc_first_miss.nd rfl (Or.inl rfl) pe_int ip_add)
  pss_nil))))))
  pss_nil)))))), ?_⟩
  intro a as _
  change BJ K _ [some (.dat (eD a)), none, none, none, none, none, none] _ _ _ _ _
  refine fun g σ H D hA hm => x_drop ?_
  refine x_call1 ?_
  refine (ev_var rfl) _ _ _ _ _ hA fun v H hA => ?_
  refine f_call [.d (eD a)] a (fun r => []) hA rfl rfl True.intro (fun as h => match as, h with | [], _ => rfl) (fun _ => rfl) (fun r as h => match as, h with | [], _ => rfl) (fun r j z => nomatch z) .nil (hm.bindR.imp (fun r1 hm v H hA => ?_) fun _ q => q)
  refine f_dropgo hA hm ?_
  change BJ K _ [some (.dat (eD a)), none, none, none, none, none, none] _ _ _ _ _
  refine fun g σ H D hA hm => x_asg ?_
  refine x_call1 ?_
  refine (ev_var rfl) _ _ _ _ _ hA fun v H hA => ?_
  refine f_call [.d (eD a)] a (fun r => []) hA rfl rfl True.intro (fun as h => match as, h with | [], _ => rfl) (fun _ => rfl) (fun r as h => match as, h with | [], _ => rfl) (fun r j z => nomatch z) .nil (hm.bindR.imp (fun r2 hm v H hA => ?_) fun _ q => q)
  refine f_setgo hA (fun j z => nomatch z) rfl hm ?_
  change BJ K _ [some (.dat (eD a)), some (.dat (eI r2)), none, none, none, none, none] _ _ _ _ _
  refine fun g σ H D hA hm => x_asg ?_
  refine x_lcD ?_
  refine (ev_var rfl) _ _ _ _ _ hA fun v H hA => ?_
  refine wk_seq hA hm fun l3 hm => f_lcW (e := eD) (enc := eI) (js := [6]) (ps := fun b4 => [eD b4]) (fun (s5 : Unit) => [some (.dat (eD a)), some (.dat (eI r2)), none, none, none, none, none]) (()) (fun b => tj_name) (by decide) (hnl fun s => rfl) (hnl fun s => rfl) (by decide) (lj_fwd fun s5 b4 g σ τ H Q Qn hA hm => ?_) hm (fun r6 v H hA hm => ?_)
  ·
    replace hA : At K g [some (.dat (eD a)), some (.dat (eI r2)), none, none, none, none, some (.dat (eD b4))] _ _ _ := hA
    refine x_yes ?_
    refine ev_int _ _ _ _ _ hA fun v H hA => ?_
    exact hm v H hA
  ·
    replace hA : At K g [some (.dat (eD a)), some (.dat (eI r2)), none, none, none, none, none] _ _ _ := hA
    refine f_setgo hA (fun j z => nomatch z) rfl hm ?_
    change BJ K _ [some (.dat (eD a)), some (.dat (eI r2)), some (.own none (.lst (List.map eI r6.2))), none, none, none, none] _ _ _ _ _
    refine fun g σ H D hA hm => x_asg ?_
    refine ev_non _ _ _ _ _ hA fun v H hA => ?_
    refine f_setgo hA (fun j z => nomatch z) rfl hm ?_
    change BJ K _ [some (.dat (eD a)), some (.dat (eI r2)), some (.own none (.lst (List.map eI r6.2))), some (.dat ((eO (eL eI)) none)), none, none, none] _ _ _ _ _
    refine fun g σ H D hA hm => x_asg ?_
    refine ev_int _ _ _ _ _ hA fun v H hA => ?_
    refine f_setlt (e := (0 : Int)) (fun t => .dat (eI t)) hA (fun t j z => nomatch z) rfl hm (fun tick_7 => ?_)
    change BJ K _ [some (.dat (eD a)), some (.dat (eI r2)), some (.own none (.lst (List.map eI r6.2))), some (.dat ((eO (eL eI)) none)), some (.dat (eI tick_7)), none, none] _ _ _ _ _
    refine bj_while (fun (s8 : ((List Int) × (Option (List Int)) × Int)) => [some (.dat (eD a)), some (.dat (eI r2)), some (.own none (.lst (List.map eI s8.1))), some (.dat ((eO (eL eI)) s8.2.1)), some (.dat (eI s8.2.2)), none, none]) (s0 := (r6.2, none, tick_7)) (.s (.s (.s (.s (.s (.d (.d .nil))))))) (cj_pure fun s8 => (evb_B ev_bl)) (fun s8 => ?_) (fun s8 => ?_)
    ·
      change BJ K _ [some (.dat (eD a)), some (.dat (eI r2)), some (.own none (.lst (List.map eI s8.1))), some (.dat ((eO (eL eI)) s8.2.1)), some (.dat (eI s8.2.2)), none, none] _ _ _ _ _
      refine bj_seq (n1 := fun (s9 : (Option (List Int))) => [some (.dat (eD a)), some (.dat (eI r2)), some (.own none (.lst (List.map eI s8.1))), some (.dat ((eO (eL eI)) s9)), some (.dat (eI s8.2.2)), none, none]) ?_ (fun s9 => ?_)
      ·
        refine fun g σ H D hA hm => x_ifB ?_
        refine x_test ?_
        refine x_op ?_
        refine x_op ?_
        refine (ev_var rfl) _ _ _ _ _ hA fun v H hA => ?_
        refine (ev_var rfl) _ _ _ _ _ hA fun v H hA => ?_
        refine f_o2m o2_mod hA hm fun t10 v H hA hm => ?_
        refine ev_int _ _ _ _ _ hA fun v H hA => ?_
        refine o2_eqI _ _ _ _ _ _ _ hA fun v H hA => ?_
        refine f_tst (P := fun c H1 => _) hA fun hA => ?_
        refine f_pick hm (fun hm => ?_) (fun hm => ?_)
        ·
          refine bj_go hA hm ?_
          change BJ K _ [some (.dat (eD a)), some (.dat (eI r2)), some (.own none (.lst (List.map eI s8.1))), some (.dat ((eO (eL eI)) s8.2.1)), some (.dat (eI s8.2.2)), none, none] _ _ _ _ _
          refine bj_ifL (evb_test (ev_op (ev_var rfl) (ev_own rfl) (o2_eqD (d := (dO (dL PyData.int))) (x := (s8.2.1 : (Option (List Int)))) (y := ((some s8.1) : (Option (List Int)))) (DpT.dat (d := (dO (dL PyData.int))) (x := (s8.2.1 : (Option (List Int)))) (bx_o (bx_l bx_i))) (.lst bx_i (.als rfl)) (eq_o (eq_l eq_i) non_l)))) ?_ ?_
          ·
            refine bj_assoc ?_
            refine fun g σ H D hA hm => x_ret ?_
            refine ev_non _ _ _ _ _ hA fun v H hA => ?_
            exact hm v H _ (hA.weak1 (.d .nil) fun j z => nomatch z)
          ·
            refine bj_pass ?_
            refine fun g σ H D hA hm => x_asg ?_
            refine (ev_cb1 (ev_own rfl) (o1_list (.l (.als rfl)))) _ _ _ _ _ hA fun v H hA => ?_
            replace hA := hA.frz
            refine f_setlt (e := (some s8.1)) (fun t => .dat ((eO (eL eI)) t)) hA (fun t j z => nomatch z) rfl hm (fun seen_11 => ?_)
            change BJ K _ [some (.dat (eD a)), some (.dat (eI r2)), some (.own none (.lst (List.map eI s8.1))), some (.dat ((eO (eL eI)) seen_11)), some (.dat (eI s8.2.2)), none, none] _ _ _ _ _
            exact bj_nx (a := seen_11) (.s (.s (.s (.s (.s (.d (.d .nil)))))))
        ·
          refine bj_go hA hm ?_
          change BJ K _ [some (.dat (eD a)), some (.dat (eI r2)), some (.own none (.lst (List.map eI s8.1))), some (.dat ((eO (eL eI)) s8.2.1)), some (.dat (eI s8.2.2)), none, none] _ _ _ _ _
          exact bj_nx (a := s8.2.1) (.s (.s (.s (.s (.s (.d (.d .nil)))))))
      ·
        change BJ K _ [some (.dat (eD a)), some (.dat (eI r2)), some (.own none (.lst (List.map eI s8.1))), some (.dat ((eO (eL eI)) s9)), some (.dat (eI s8.2.2)), none, none] _ _ _ _ _
        refine fun g σ H D hA hm => x_asg ?_
        refine x_call3 ?_
        refine (ev_var rfl) _ _ _ _ _ hA fun v H hA => ?_
        refine (ev_own rfl) _ _ _ _ _ hA fun v H hA => ?_
        refine (ev_var rfl) _ _ _ _ _ hA fun v H hA => ?_
        refine f_call [.d (eD a), .o 2 none (.lst (List.map eI s8.1)), .d (eI s8.2.2)] (a, s8.1, s8.2.2) (fun r => [.lst (List.map eI r.2)]) hA rfl rfl ⟨rfl, True.intro⟩ (fun as h => match as, h with | [_], _ => rfl) (fun _ => rfl) (fun r as h => match as, h with | [_], _ => rfl) (fun r j z => nomatch z) .nil (hm.bindR.imp (fun r12 hm v H hA => ?_) fun _ q => q)
        replace hA : At K g [some (.dat (eD a)), some (.dat (eI r2)), some (.own none (.lst (List.map eI r12.2))), some (.dat ((eO (eL eI)) s9)), some (.dat (eI s8.2.2)), none, none] _ _ _ := hA
        refine f_setgo hA (fun j z => nomatch z) rfl hm ?_
        change BJ K _ [some (.dat (eD a)), some (.dat (eI r2)), some (.own none (.lst (List.map eI r12.2))), some (.dat ((eO (eL eI)) s9)), some (.dat (eI s8.2.2)), some (.dat ((eO eI) r12.1)), none] _ _ _ _ _
        refine bj_ifL (evb_test (ev_op (ev_var rfl) ev_non (o2_notN nn_i))) ?_ ?_
        ·
          refine bj_narrow (i := 5) (e := eI) rfl (fun missed_13 => ?_)
          change BJ K _ [some (.dat (eD a)), some (.dat (eI r2)), some (.own none (.lst (List.map eI r12.2))), some (.dat ((eO (eL eI)) s9)), some (.dat (eI s8.2.2)), some (.dat (eI missed_13)), none] _ _ _ _ _
          refine bj_assoc ?_
          refine fun g σ H D hA hm => x_ret ?_
          refine (ev_tup [eI missed_13, eI s8.2.2] (ea_cons (ev_var rfl) (ea_cons (ev_var rfl) ea_nil))) _ _ _ _ _ hA fun v H hA => ?_
          exact hm v H _ (hA.weak1 (.d .nil) fun j z => nomatch z)
        ·
          refine bj_pass ?_
          refine fun g σ H D hA hm => x_drop ?_
          refine x_call1 ?_
          refine (ev_own rfl) _ _ _ _ _ hA fun v H hA => ?_
          refine f_call [.o 2 none (.lst (List.map eI r12.2))] r12.2 (fun r => [.lst (List.map eI r.2)]) hA rfl rfl ⟨rfl, True.intro⟩ (fun as h => match as, h with | [_], _ => rfl) (fun _ => rfl) (fun r as h => match as, h with | [_], _ => rfl) (fun r j z => nomatch z) .nil (hm.bindR.imp (fun r14 hm v H hA => ?_) fun _ q => q)
          replace hA : At K g [some (.dat (eD a)), some (.dat (eI r2)), some (.own none (.lst (List.map eI r14.2))), some (.dat ((eO (eL eI)) s9)), some (.dat (eI s8.2.2)), some (.dat ((eO eI) r12.1)), none] _ _ _ := hA
          refine f_dropgo hA hm ?_
          change BJ K _ [some (.dat (eD a)), some (.dat (eI r2)), some (.own none (.lst (List.map eI r14.2))), some (.dat ((eO (eL eI)) s9)), some (.dat (eI s8.2.2)), some (.dat ((eO eI) r12.1)), none] _ _ _ _ _
          refine fun g σ H D hA hm => x_aug rfl hA fun x hA => ?_
          refine ev_int _ _ _ _ _ hA fun v H hA => ?_
          refine f_ip hA fun v H hA => ?_
          refine f_setlt (e := (s8.2.2 + (1 : Int))) (fun t => .dat (eI t)) hA (fun t j z => nomatch z) rfl hm (fun tick_15 => ?_)
          change BJ K _ [some (.dat (eD a)), some (.dat (eI r2)), some (.own none (.lst (List.map eI r14.2))), some (.dat ((eO (eL eI)) s9)), some (.dat (eI tick_15)), some (.dat ((eO eI) r12.1)), none] _ _ _ _ _
          exact bj_nx (a := (r14.2, s9, tick_15)) (.s (.s (.s (.s (.s (.d (.d .nil)))))))
    ·
      change BJ K _ [some (.dat (eD a)), some (.dat (eI r2)), some (.own none (.lst (List.map eI s8.1))), some (.dat ((eO (eL eI)) s8.2.1)), some (.dat (eI s8.2.2)), none, none] _ _ _ _ _
      exact fun g σ H D hA hm => hm.elim
theorem ok_job_ends (T : Txt K mg Z) : FnOk P w K mg base (L2.CX P w) 4 Z.f_job_ends Z.d_job_ends ["jobs", "place", "many"] (Spec K Z.ec 3 pre_job_ends f_job_ends post_job_ends ret_job_ends) := by
  refine fn_ok T.d_job_ends.F sc_job_ends rfl m_job_ends fun cdv A outer s H E hr => ?_
  refine ⟨_, (pss_cons (ps_expr (pe_callS (ok_check_jobs T) (hr.mono (by decide)) (by rfl) T.d_check_jobs.g T.d_check_jobs.F.kp T.d_check_jobs.b (fun σ => passAt (takes_of rfl rfl rfl rfl) σ) (pa_cons (pv 0) pa_nil)))
  (pss_cons (ps_expr (pe_callS (ok_check_job_place T) (hr.mono (by decide)) (by rfl) T.d_check_job_place.g T.d_check_job_place.F.kp T.d_check_job_place.b (fun σ => passAt (takes_of rfl rfl rfl rfl) σ) (pa_cons (pv 0) (pa_cons (pv 1) pa_nil))))
  (pss_cons (ps_if (pt_not (pt_val (pe_callS (ok_whole_in T) (hr.mono (by decide)) (by rfl) T.d_whole_in.g T.d_whole_in.F.kp T.d_whole_in.b (fun σ => passAt (takes_of rfl rfl rfl rfl) σ) (pa_cons (pv 2) (pa_cons pe_int (pa_cons (pe_gk (by rfl) T.k_MOST_TOLD) pa_nil)))))) (pss_cons (ps_raise rfl (takes_of rfl rfl rfl rfl) (pmk_oex T.x_BadNumber.oex T.x_BadNumber.iC T.x_BadNumber.tI (ini_BadNumber T) (hr.mono (by decide)) T.x_BadNumber.b .nil passL (by rfl) T.x_BadNumber.g (pa_cons pe_str pa_nil)))
  pss_nil) pss_nil)
  (pss_cons (ps_asg (pe_ix (r := rIxQ K) ix_q (pv 0) (pv 1) (fun _ _ => rfl)) (pg_seq rfl (pgs_cons (pg_name (i := 6) sc_job_ends.nd rfl (Or.inl rfl)) (pgs_cons (pg_name (i := 7) sc_job_ends.nd rfl (Or.inl rfl)) (pgs_cons (pg_name (i := 8) sc_job_ends.nd rfl (Or.inl rfl)) pgs_nil)))))
  (pss_cons (ps_setLc (i := 3) (own := [("_", 6)]) (g := gName 6) rfl sc_job_ends.nd rfl rfl (sw_true rfl rfl rfl (by decide +kernel)) (pi_seqV (pv 0)) (blkOk_by (N := ["jobs", "place", "many", "left", "found", "tick", "_", "period", "offset", "ran"]) (sc := defScope st_job_ends) (by decide +kernel)) (fun _ _ _ _ _ => (pg_name (i := 6) sc_job_ends.nd rfl (Or.inl rfl))) (fun _ _ _ _ _ => pts_nil) (fun _ _ _ _ _ => pe_int))
  (pss_cons (ps_set (i := 4) sc_job_ends.nd rfl (Or.inl rfl) (pe_lst pa_nil))
  (pss_cons (ps_set (i := 5) sc_job_ends.nd rfl (Or.inl rfl) pe_int)
  (pss_cons (ps_while (passes_of rfl) (pt_cmpR op_lt (pe_callB (r := rLen K) c_len (by rfl) T.z_len (by decide +kernel) (pa_cons (pv 4) pa_nil)) (pv 2) (nomark _)) (pss_cons (ps_if (pt_cmpR p_notN (pe_callS (ok_jobs_come T) (hr.mono (by decide)) (by rfl) T.d_jobs_come.g T.d_jobs_come.F.kp T.d_jobs_come.b (fun σ => passAt (takes_of rfl rfl rfl rfl) σ) (pa_cons (pv 0) (pa_cons (pv 3) (pa_cons (pv 5) pa_nil)))) pe_non (nomark _)) (pss_cons (ps_ret (pe_callTy (r := rTuple K) c_tuple (by rfl) T.z_tuple (by decide +kernel) (pa_cons (pv 4) pa_nil)))
  pss_nil) pss_nil)
  (pss_cons (ps_set (i := 9) sc_job_ends.nd rfl (Or.inl rfl) (pe_callS (ok_run_one_rung T) (hr.mono (by decide)) (by rfl) T.d_run_one_rung.g T.d_run_one_rung.F.kp T.d_run_one_rung.b (fun σ => passAt (takes_of rfl rfl rfl rfl) σ) (pa_cons (pv 3) pa_nil)))
  (pss_cons (ps_aug (i := 5) sc_job_ends.nd rfl (Or.inl rfl) pe_int ip_add)
  (pss_cons (ps_if (pw_and (pt_cmpR op_eq (pv 9) (pv 1) (nomark _)) (pw_and1 (pt_cmpR op_eq (pe_ix (r := rIxL K) ix_list (pv 3) (pv 1) (fun _ _ => rfl)) pe_int (nomark _)))).pt (pss_cons (ps_expr (pe_bm PySem.F.plainAttrs_list PySem.F.slot_list_append PySem.F.type_list_append mt_append (pv 4) (pa_cons (pe_op op_sub (pe_op op_sub (pv 5) (pv 8)) (pe_op op_mul (pe_callB (r := rLen K) c_len (by rfl) T.z_len (by decide +kernel) (pa_cons (pv 4) pa_nil)) (pv 7))) pa_nil)))
  pss_nil) pss_nil)
  pss_nil)))))
  (pss_cons (ps_ret (pe_callTy (r := rTuple K) c_tuple (by rfl) T.z_tuple (by decide +kernel) (pa_cons (pv 4) pa_nil)))
  pss_nil))))))))), ?_⟩
  intro a as _
  change BJ K _ [some (.dat (eD a.1)), some (.dat (eI a.2.1)), some (.dat (eI a.2.2)), none, none, none, none, none, none, none] _ _ _ _ _
  refine fun g σ H D hA hm => x_drop ?_
  refine x_call1 ?_
  refine (ev_var rfl) _ _ _ _ _ hA fun v H hA => ?_
  refine f_call [.d (eD a.1)] a.1 (fun r => []) hA rfl rfl True.intro (fun as h => match as, h with | [], _ => rfl) (fun _ => rfl) (fun r as h => match as, h with | [], _ => rfl) (fun r j z => nomatch z) .nil (hm.bindR.imp (fun r1 hm v H hA => ?_) fun _ q => q)
  refine f_dropgo hA hm ?_
  change BJ K _ [some (.dat (eD a.1)), some (.dat (eI a.2.1)), some (.dat (eI a.2.2)), none, none, none, none, none, none, none] _ _ _ _ _
  refine fun g σ H D hA hm => x_drop ?_
  refine x_call2 ?_
  refine (ev_var rfl) _ _ _ _ _ hA fun v H hA => ?_
  refine (ev_var rfl) _ _ _ _ _ hA fun v H hA => ?_
  refine f_call [.d (eD a.1), .d (eI a.2.1)] (a.1, a.2.1) (fun r => []) hA rfl rfl True.intro (fun as h => match as, h with | [], _ => rfl) (fun _ => rfl) (fun r as h => match as, h with | [], _ => rfl) (fun r j z => nomatch z) .nil (hm.bindR.imp (fun r2 hm v H hA => ?_) fun _ q => q)
  refine f_dropgo hA hm ?_
  change BJ K _ [some (.dat (eD a.1)), some (.dat (eI a.2.1)), some (.dat (eI a.2.2)), none, none, none, none, none, none, none] _ _ _ _ _
  refine fun g σ H D hA hm => x_ifS ?_
  refine x_not ?_
  refine x_B ?_
  refine x_call3 ?_
  refine (ev_var rfl) _ _ _ _ _ hA fun v H hA => ?_
  replace hA := hA.box (Bx.hd (x := a.2.2) bx_i)
  refine ev_int _ _ _ _ _ hA fun v H hA => ?_
  refine ev_int _ _ _ _ _ hA fun v H hA => ?_
  refine f_call [.d (eD (PyData.int a.2.2)), .d (eI (0 : Int)), .d (eI (200 : Int))] ((PyData.int a.2.2), (0 : Int), (200 : Int)) (fun r => []) hA rfl rfl True.intro (fun as h => match as, h with | [], _ => rfl) (fun _ => rfl) (fun r as h => match as, h with | [], _ => rfl) (fun r j z => nomatch z) .nil (hm.bindR.imp (fun r3 hm v H hA => ?_) fun _ q => q)
  refine f_tst (P := fun c H1 => _) hA fun hA => ?_
  refine f_ifS hm (fun hm => ?_) (fun hm => ?_)
  ·
    refine bj_go hA hm ?_
    change BJ K _ [some (.dat (eD a.1)), some (.dat (eI a.2.1)), some (.dat (eI a.2.2)), none, none, none, none, none, none, none] _ _ _ _ _
    refine bj_assoc ?_
    exact bj_raise1 (cn := "BadNumber") (dv := (PyData.str ("many" : Str))) T.ec_BadNumber T.x_BadNumber.oex (T.x_BadNumber.no _ (by decide)) rfl .nil (ev_box bx_s ev_str)
  ·
    refine bj_go hA hm ?_
    change BJ K _ [some (.dat (eD a.1)), some (.dat (eI a.2.1)), some (.dat (eI a.2.2)), none, none, none, none, none, none, none] _ _ _ _ _
    refine bj_pass ?_
    refine fun g σ H D hA hm => x_asg ?_
    refine x_op ?_
    refine (ev_var rfl) _ _ _ _ _ hA fun v H hA => ?_
    refine (ev_var rfl) _ _ _ _ _ hA fun v H hA => ?_
    refine f_o2m o2_atD hA hm fun t4 v H hA hm => ?_
    refine f_unp3 hA hm fun q5 hA hm => ?_
    refine f_wint 1 rfl hA hm fun t6 hA hm => ?_
    refine f_wint 2 rfl hA hm fun t7 hA hm => ?_
    refine (tj_seq (qs := [eD q5.1, eI t6, eI t7]) (tjs_cons tj_name (tjs_cons tj_name (tjs_cons tj_name tjs_nil))) rfl).2 _ _ _ _ _ _ _ (hjl (sT := Unit) (Gl := fun _ => [some (.dat (eD a.1)), some (.dat (eI a.2.1)), some (.dat (eI a.2.2)), none, none, none, none, none, none, none]) (js := [6, 7, 8]) (n := 10) (fun _ => rfl) (by decide) ()) (by intro y hy; cases hy) hA fun vs H _ hA => ?_
    replace hA : At K g [some (.dat (eD a.1)), some (.dat (eI a.2.1)), some (.dat (eI a.2.2)), none, none, none, some (.dat (eD q5.1)), some (.dat (eI t6)), some (.dat (eI t7)), none] _ _ _ := hA
    refine bj_go hA hm ?_
    refine fun g σ H D hA hm => x_asg ?_
    refine x_lcD ?_
    refine (ev_var rfl) _ _ _ _ _ hA fun v H hA => ?_
    replace hA := At.forget (i := 6) rfl hA
    replace hA : At K g [some (.dat (eD a.1)), some (.dat (eI a.2.1)), some (.dat (eI a.2.2)), none, none, none, none, some (.dat (eI t6)), some (.dat (eI t7)), none] _ _ _ := hA
    refine wk_seq hA hm fun l8 hm => f_lcW (e := eD) (enc := eI) (js := [6]) (ps := fun b9 => [eD b9]) (fun (s10 : Unit) => [some (.dat (eD a.1)), some (.dat (eI a.2.1)), some (.dat (eI a.2.2)), none, none, none, none, some (.dat (eI t6)), some (.dat (eI t7)), none]) (()) (fun b => tj_name) (by decide) (hnl fun s => rfl) (hnl fun s => rfl) (by decide) (lj_fwd fun s10 b9 g σ τ H Q Qn hA hm => ?_) hm (fun r11 v H hA hm => ?_)
    ·
      replace hA : At K g [some (.dat (eD a.1)), some (.dat (eI a.2.1)), some (.dat (eI a.2.2)), none, none, none, some (.dat (eD b9)), some (.dat (eI t6)), some (.dat (eI t7)), none] _ _ _ := hA
      refine x_yes ?_
      refine ev_int _ _ _ _ _ hA fun v H hA => ?_
      exact hm v H hA
    ·
      replace hA : At K g [some (.dat (eD a.1)), some (.dat (eI a.2.1)), some (.dat (eI a.2.2)), none, none, none, none, some (.dat (eI t6)), some (.dat (eI t7)), none] _ _ _ := hA
      refine f_setgo hA (fun j z => nomatch z) rfl hm ?_
      change BJ K _ [some (.dat (eD a.1)), some (.dat (eI a.2.1)), some (.dat (eI a.2.2)), some (.own none (.lst (List.map eI r11.2))), none, none, none, some (.dat (eI t6)), some (.dat (eI t7)), none] _ _ _ _ _
      refine fun g σ H D hA hm => x_asg ?_
      refine (ev_lst [] ea_nil) _ _ _ _ _ hA fun v H hA => ?_
      refine f_setlt (e := []) (fun t => .own none (.lst (List.map eI t))) hA (fun t j z => nomatch z) rfl hm (fun found_12 => ?_)
      change BJ K _ [some (.dat (eD a.1)), some (.dat (eI a.2.1)), some (.dat (eI a.2.2)), some (.own none (.lst (List.map eI r11.2))), some (.own none (.lst (List.map eI found_12))), none, none, some (.dat (eI t6)), some (.dat (eI t7)), none] _ _ _ _ _
      refine fun g σ H D hA hm => x_asg ?_
      refine ev_int _ _ _ _ _ hA fun v H hA => ?_
      refine f_setlt (e := (0 : Int)) (fun t => .dat (eI t)) hA (fun t j z => nomatch z) rfl hm (fun tick_13 => ?_)
      change BJ K _ [some (.dat (eD a.1)), some (.dat (eI a.2.1)), some (.dat (eI a.2.2)), some (.own none (.lst (List.map eI r11.2))), some (.own none (.lst (List.map eI found_12))), some (.dat (eI tick_13)), none, some (.dat (eI t6)), some (.dat (eI t7)), none] _ _ _ _ _
      refine bj_while (fun (s14 : ((List Int) × (List Int) × Int)) => [some (.dat (eD a.1)), some (.dat (eI a.2.1)), some (.dat (eI a.2.2)), some (.own none (.lst (List.map eI s14.1))), some (.own none (.lst (List.map eI s14.2.1))), some (.dat (eI s14.2.2)), none, some (.dat (eI t6)), some (.dat (eI t7)), none]) (s0 := (r11.2, found_12, tick_13)) (.s (.s (.s (.s (.s (.s (.d (.s (.s (.d .nil)))))))))) (cj_pure fun s14 => (evb_test (ev_op (ev_cb1 (ev_own rfl) (o1_lenT s14.2.1 eI (.l (.als rfl)))) (ev_var rfl) o2_c0))) (fun s14 => ?_) (fun s14 => ?_)
      ·
        change BJ K _ [some (.dat (eD a.1)), some (.dat (eI a.2.1)), some (.dat (eI a.2.2)), some (.own none (.lst (List.map eI s14.1))), some (.own none (.lst (List.map eI s14.2.1))), some (.dat (eI s14.2.2)), none, some (.dat (eI t6)), some (.dat (eI t7)), none] _ _ _ _ _
        refine fun g σ H D hA hm => x_ifS ?_
        refine x_test ?_
        refine x_op ?_
        refine x_call3 ?_
        refine (ev_var rfl) _ _ _ _ _ hA fun v H hA => ?_
        refine (ev_own rfl) _ _ _ _ _ hA fun v H hA => ?_
        refine (ev_var rfl) _ _ _ _ _ hA fun v H hA => ?_
        refine f_call [.d (eD a.1), .o 3 none (.lst (List.map eI s14.1)), .d (eI s14.2.2)] (a.1, s14.1, s14.2.2) (fun r => [.lst (List.map eI r.2)]) hA rfl rfl ⟨rfl, True.intro⟩ (fun as h => match as, h with | [_], _ => rfl) (fun _ => rfl) (fun r as h => match as, h with | [_], _ => rfl) (fun r j z => nomatch z) .nil (hm.bindR.imp (fun r15 hm v H hA => ?_) fun _ q => q)
        replace hA : At K g [some (.dat (eD a.1)), some (.dat (eI a.2.1)), some (.dat (eI a.2.2)), some (.own none (.lst (List.map eI r15.2))), some (.own none (.lst (List.map eI s14.2.1))), some (.dat (eI s14.2.2)), none, some (.dat (eI t6)), some (.dat (eI t7)), none] _ _ _ := hA
        refine ev_non _ _ _ _ _ hA fun v H hA => ?_
        refine (o2_notN nn_i) _ _ _ _ _ _ _ hA fun v H hA => ?_
        refine f_tst (P := fun c H1 => _) hA fun hA => ?_
        refine f_ifS hm (fun hm => ?_) (fun hm => ?_)
        ·
          refine bj_go hA hm ?_
          change BJ K _ [some (.dat (eD a.1)), some (.dat (eI a.2.1)), some (.dat (eI a.2.2)), some (.own none (.lst (List.map eI r15.2))), some (.own none (.lst (List.map eI s14.2.1))), some (.dat (eI s14.2.2)), none, some (.dat (eI t6)), some (.dat (eI t7)), none] _ _ _ _ _
          refine bj_assoc ?_
          refine fun g σ H D hA hm => x_ret ?_
          refine (ev_cb1 (ev_own rfl) (o1_tuple (.l (.als rfl)))) _ _ _ _ _ hA fun v H hA => ?_
          exact hm v H _ (hA.weak1 (.d (.d (.d .nil))) fun j z => nomatch z)
        ·
          refine bj_go hA hm ?_
          change BJ K _ [some (.dat (eD a.1)), some (.dat (eI a.2.1)), some (.dat (eI a.2.2)), some (.own none (.lst (List.map eI r15.2))), some (.own none (.lst (List.map eI s14.2.1))), some (.dat (eI s14.2.2)), none, some (.dat (eI t6)), some (.dat (eI t7)), none] _ _ _ _ _
          refine bj_pass ?_
          refine fun g σ H D hA hm => x_asg ?_
          refine x_call1 ?_
          refine (ev_own rfl) _ _ _ _ _ hA fun v H hA => ?_
          refine f_call [.o 3 none (.lst (List.map eI r15.2))] r15.2 (fun r => [.lst (List.map eI r.2)]) hA rfl rfl ⟨rfl, True.intro⟩ (fun as h => match as, h with | [_], _ => rfl) (fun _ => rfl) (fun r as h => match as, h with | [_], _ => rfl) (fun r j z => nomatch z) .nil (hm.bindR.imp (fun r16 hm v H hA => ?_) fun _ q => q)
          replace hA : At K g [some (.dat (eD a.1)), some (.dat (eI a.2.1)), some (.dat (eI a.2.2)), some (.own none (.lst (List.map eI r16.2))), some (.own none (.lst (List.map eI s14.2.1))), some (.dat (eI s14.2.2)), none, some (.dat (eI t6)), some (.dat (eI t7)), none] _ _ _ := hA
          refine f_setgo hA (fun j z => nomatch z) rfl hm ?_
          change BJ K _ [some (.dat (eD a.1)), some (.dat (eI a.2.1)), some (.dat (eI a.2.2)), some (.own none (.lst (List.map eI r16.2))), some (.own none (.lst (List.map eI s14.2.1))), some (.dat (eI s14.2.2)), none, some (.dat (eI t6)), some (.dat (eI t7)), some (.dat (eI r16.1))] _ _ _ _ _
          refine fun g σ H D hA hm => x_aug rfl hA fun x hA => ?_
          refine ev_int _ _ _ _ _ hA fun v H hA => ?_
          refine f_ip hA fun v H hA => ?_
          refine f_setlt (e := (s14.2.2 + (1 : Int))) (fun t => .dat (eI t)) hA (fun t j z => nomatch z) rfl hm (fun tick_17 => ?_)
          change BJ K _ [some (.dat (eD a.1)), some (.dat (eI a.2.1)), some (.dat (eI a.2.2)), some (.own none (.lst (List.map eI r16.2))), some (.own none (.lst (List.map eI s14.2.1))), some (.dat (eI tick_17)), none, some (.dat (eI t6)), some (.dat (eI t7)), some (.dat (eI r16.1))] _ _ _ _ _
          refine fun g σ H D hA hm => x_ifS ?_
          refine f_joinT (fun (s : Bool) => [some (.dat (eD a.1)), some (.dat (eI a.2.1)), some (.dat (eI a.2.2)), some (.own none (.lst (List.map eI r16.2))), some (.own none (.lst (List.map eI s14.2.1))), some (.dat (eI tick_17)), none, some (.dat (eI t6)), some (.dat (eI t7)), some (.dat (eI r16.1))]) (fun s => s) hA hm (fun hm => ?_) (fun j18 H hA hm => ?_)
          ·
            refine x_andT ?_
            refine (evb_test (ev_op (ev_var rfl) (ev_var rfl) o2_eqI)) _ _ _ _ _ hA fun H hA => ?_
            refine f_pick hm (fun hm => ?_) (fun hm => ?_)
            ·
              refine x_test ?_
              refine x_op ?_
              refine x_op ?_
              refine (ev_own rfl) _ _ _ _ _ hA fun v H hA => ?_
              refine (ev_var rfl) _ _ _ _ _ hA fun v H hA => ?_
              refine f_o2m (o2_idxL (xs := r16.2) (e := eI) (.als rfl)) hA hm fun t19 v H hA hm => ?_
              refine ev_int _ _ _ _ _ hA fun v H hA => ?_
              refine o2_eqI _ _ _ _ _ _ _ hA fun v H hA => ?_
              refine f_tst (P := fun c H1 => _) hA fun hA => ?_
              exact hm H hA
            ·
              exact hm H hA
          ·
            replace hA : At K g [some (.dat (eD a.1)), some (.dat (eI a.2.1)), some (.dat (eI a.2.2)), some (.own none (.lst (List.map eI r16.2))), some (.own none (.lst (List.map eI s14.2.1))), some (.dat (eI tick_17)), none, some (.dat (eI t6)), some (.dat (eI t7)), some (.dat (eI r16.1))] _ _ _ := hA
            refine f_ifS hm (fun hm => ?_) (fun hm => ?_)
            ·
              refine bj_go hA hm ?_
              change BJ K _ [some (.dat (eD a.1)), some (.dat (eI a.2.1)), some (.dat (eI a.2.2)), some (.own none (.lst (List.map eI r16.2))), some (.own none (.lst (List.map eI s14.2.1))), some (.dat (eI tick_17)), none, some (.dat (eI t6)), some (.dat (eI t7)), some (.dat (eI r16.1))] _ _ _ _ _
              refine bj_assoc ?_
              refine fun g σ H D hA hm => x_drop ?_
              refine x_app rfl hA fun x H hA => ?_
              refine x_op ?_
              refine (ev_op (ev_var rfl) (ev_var rfl) o2_i0) _ _ _ _ _ hA fun v H hA => ?_
              refine x_op ?_
              refine (ev_cb1 (ev_own rfl) (o1_lenT s14.2.1 eI (.l (.als rfl)))) _ _ _ _ _ hA fun v H hA => ?_
              refine (ev_var rfl) _ _ _ _ _ hA fun v H hA => ?_
              refine f_o2m o2_mul hA hm fun t20 v H hA hm => ?_
              refine o2_i0 _ _ _ _ _ _ _ hA fun v H hA => ?_
              refine f_appm (xs := s14.2.1) (e := eI) rfl hA hm fun ys21 H hA hm => ?_
              refine bj_go hA hm ?_
              change BJ K _ [some (.dat (eD a.1)), some (.dat (eI a.2.1)), some (.dat (eI a.2.2)), some (.own none (.lst (List.map eI r16.2))), some (.own none (.lst (List.map eI ys21))), some (.dat (eI tick_17)), none, some (.dat (eI t6)), some (.dat (eI t7)), some (.dat (eI r16.1))] _ _ _ _ _
              refine bj_pass ?_
              exact bj_nx (a := (r16.2, ys21, tick_17)) (.s (.s (.s (.s (.s (.s (.d (.s (.s (.d .nil))))))))))
            ·
              refine bj_go hA hm ?_
              change BJ K _ [some (.dat (eD a.1)), some (.dat (eI a.2.1)), some (.dat (eI a.2.2)), some (.own none (.lst (List.map eI r16.2))), some (.own none (.lst (List.map eI s14.2.1))), some (.dat (eI tick_17)), none, some (.dat (eI t6)), some (.dat (eI t7)), some (.dat (eI r16.1))] _ _ _ _ _
              refine bj_pass ?_
              exact bj_nx (a := (r16.2, s14.2.1, tick_17)) (.s (.s (.s (.s (.s (.s (.d (.s (.s (.d .nil))))))))))
      ·
        change BJ K _ [some (.dat (eD a.1)), some (.dat (eI a.2.1)), some (.dat (eI a.2.2)), some (.own none (.lst (List.map eI s14.1))), some (.own none (.lst (List.map eI s14.2.1))), some (.dat (eI s14.2.2)), none, some (.dat (eI t6)), some (.dat (eI t7)), none] _ _ _ _ _
        refine fun g σ H D hA hm => x_ret ?_
        refine (ev_cb1 (ev_own rfl) (o1_tuple (.l (.als rfl)))) _ _ _ _ _ hA fun v H hA => ?_
        exact hm v H _ (hA.weak1 (.d (.d (.d .nil))) fun j z => nomatch z)
theorem ok_rows_of_response (T : Txt K mg Z) : FnOk P w K mg base (L2.CX P w) 4 Z.f_rows_of_response Z.d_rows_of_response ["jobs", "place"] (Spec K Z.ec 2 pre_rows_of_response f_rows_of_response post_rows_of_response ret_rows_of_response) := by
  refine fn_ok T.d_rows_of_response.F sc_rows_of_response rfl m_rows_of_response fun cdv A outer s H E hr => ?_
  refine ⟨_, (pss_cons (ps_expr (pe_callS (ok_check_jobs T) (hr.mono (by decide)) (by rfl) T.d_check_jobs.g T.d_check_jobs.F.kp T.d_check_jobs.b (fun σ => passAt (takes_of rfl rfl rfl rfl) σ) (pa_cons (pv 0) pa_nil)))
  (pss_cons (ps_expr (pe_callS (ok_check_job_place T) (hr.mono (by decide)) (by rfl) T.d_check_job_place.g T.d_check_job_place.F.kp T.d_check_job_place.b (fun σ => passAt (takes_of rfl rfl rfl rfl) σ) (pa_cons (pv 0) (pa_cons (pv 1) pa_nil))))
  (pss_cons (ps_asg (pe_ix (r := rIxQ K) ix_q (pv 0) (pv 1) (fun _ _ => rfl)) (pg_seq rfl (pgs_cons (pg_name (i := 3) sc_rows_of_response.nd rfl (Or.inl rfl)) (pgs_cons (pg_name (i := 4) sc_rows_of_response.nd rfl (Or.inl rfl)) (pgs_cons (pg_name (i := 5) sc_rows_of_response.nd rfl (Or.inl rfl)) pgs_nil)))))
  (pss_cons (ps_set (i := 2) sc_rows_of_response.nd rfl (Or.inr rfl) (pe_lst (pa_cons (pv 3) pa_nil)))
  (pss_cons (ps_while (passes_of rfl) (pt_cmpR op_le (pe_ix (r := rIxL K) ix_list (pv 2) (pe_un un_neg pe_int) (fun _ _ => rfl)) (pv 4) (nomark _)) (pss_cons (ps_set (i := 6) sc_rows_of_response.nd rfl (Or.inl rfl) (pe_op op_add (pv 3) (pe_callB (r := rSum K) (cr_sum rfl) (by rfl) T.z_sum (by decide +kernel) (pa_cons (pe_lc (own := [("urgent", 7)]) (g := gName 7) rfl sc_rows_of_response.nd (pi_seqV (pe_slice (r := rSlQ K) (sl_q rfl) (pv 0) po_none (po_some (pv 1)))) (blkOk_by (N := ["jobs", "place", "found", "own", "period", "_", "total", "urgent"]) (sc := defScope st_rows_of_response) (by decide +kernel)) (fun _ _ _ _ _ => (pg_name (i := 7) sc_rows_of_response.nd rfl (Or.inl rfl))) (fun _ _ _ _ _ => pts_nil) (fun _ _ _ _ _ => (pe_op op_mul (pe_ix (r := rIxQ K) ix_q (pv 7) pe_int (fun _ _ => rfl)) (pe_un un_neg (pe_op op_fdiv (pe_un un_neg (pe_ix (r := rIxL K) ix_list (pv 2) (pe_un un_neg pe_int) (fun _ _ => rfl))) (pe_ix (r := rIxQ K) ix_q (pv 7) pe_int (fun _ _ => rfl))))))) pa_nil))))
  (pss_cons (ps_if (pt_cmpR op_eq (pv 6) (pe_ix (r := rIxL K) ix_list (pv 2) (pe_un un_neg pe_int) (fun _ _ => rfl)) (nomark _)) (pss_cons (ps_ret (pe_callTy (r := rTuple K) c_tuple (by rfl) T.z_tuple (by decide +kernel) (pa_cons (pv 2) pa_nil)))
  pss_nil) pss_nil)
  (pss_cons (ps_expr (pe_bm PySem.F.plainAttrs_list PySem.F.slot_list_append PySem.F.type_list_append mt_append (pv 2) (pa_cons (pv 6) pa_nil)))
  pss_nil))))
  (pss_cons (ps_ret (pe_callTy (r := rTuple K) c_tuple (by rfl) T.z_tuple (by decide +kernel) (pa_cons (pv 2) pa_nil)))
  pss_nil)))))), ?_⟩
  intro a as _
  change BJ K _ [some (.dat (eD a.1)), some (.dat (eI a.2)), none, none, none, none, none, none] _ _ _ _ _
  refine fun g σ H D hA hm => x_drop ?_
  refine x_call1 ?_
  refine (ev_var rfl) _ _ _ _ _ hA fun v H hA => ?_
  refine f_call [.d (eD a.1)] a.1 (fun r => []) hA rfl rfl True.intro (fun as h => match as, h with | [], _ => rfl) (fun _ => rfl) (fun r as h => match as, h with | [], _ => rfl) (fun r j z => nomatch z) .nil (hm.bindR.imp (fun r1 hm v H hA => ?_) fun _ q => q)
  refine f_dropgo hA hm ?_
  change BJ K _ [some (.dat (eD a.1)), some (.dat (eI a.2)), none, none, none, none, none, none] _ _ _ _ _
  refine fun g σ H D hA hm => x_drop ?_
  refine x_call2 ?_
  refine (ev_var rfl) _ _ _ _ _ hA fun v H hA => ?_
  refine (ev_var rfl) _ _ _ _ _ hA fun v H hA => ?_
  refine f_call [.d (eD a.1), .d (eI a.2)] (a.1, a.2) (fun r => []) hA rfl rfl True.intro (fun as h => match as, h with | [], _ => rfl) (fun _ => rfl) (fun r as h => match as, h with | [], _ => rfl) (fun r j z => nomatch z) .nil (hm.bindR.imp (fun r2 hm v H hA => ?_) fun _ q => q)
  refine f_dropgo hA hm ?_
  change BJ K _ [some (.dat (eD a.1)), some (.dat (eI a.2)), none, none, none, none, none, none] _ _ _ _ _
  refine fun g σ H D hA hm => x_asg ?_
  refine x_op ?_
  refine (ev_var rfl) _ _ _ _ _ hA fun v H hA => ?_
  refine (ev_var rfl) _ _ _ _ _ hA fun v H hA => ?_
  refine f_o2m o2_atD hA hm fun t3 v H hA hm => ?_
  refine f_unp3 hA hm fun q4 hA hm => ?_
  refine f_wint 0 rfl hA hm fun t5 hA hm => ?_
  refine f_wint 1 rfl hA hm fun t6 hA hm => ?_
  refine (tj_seq (qs := [eI t5, eI t6, eD q4.2.2]) (tjs_cons tj_name (tjs_cons tj_name (tjs_cons tj_name tjs_nil))) rfl).2 _ _ _ _ _ _ _ (hjl (sT := Unit) (Gl := fun _ => [some (.dat (eD a.1)), some (.dat (eI a.2)), none, none, none, none, none, none]) (js := [3, 4, 5]) (n := 8) (fun _ => rfl) (by decide) ()) (by intro y hy; cases hy) hA fun vs H _ hA => ?_
  replace hA : At K g [some (.dat (eD a.1)), some (.dat (eI a.2)), none, some (.dat (eI t5)), some (.dat (eI t6)), some (.dat (eD q4.2.2)), none, none] _ _ _ := hA
  refine bj_go hA hm ?_
  refine fun g σ H D hA hm => x_asg ?_
  refine (ev_lst [eI t5] (ea_cons (ev_var rfl) ea_nil)) _ _ _ _ _ hA fun v H hA => ?_
  refine f_setlt (e := [t5]) (fun t => .own none (.lst (List.map eI t))) hA (fun t j z => nomatch z) rfl hm (fun found_7 => ?_)
  change BJ K _ [some (.dat (eD a.1)), some (.dat (eI a.2)), some (.own none (.lst (List.map eI found_7))), some (.dat (eI t5)), some (.dat (eI t6)), some (.dat (eD q4.2.2)), none, none] _ _ _ _ _
  refine bj_while (fun (s8 : (List Int)) => [some (.dat (eD a.1)), some (.dat (eI a.2)), some (.own none (.lst (List.map eI s8))), some (.dat (eI t5)), some (.dat (eI t6)), none, none, none]) (s0 := found_7) (.s (.s (.s (.s (.s (.d (.d (.d .nil)))))))) (cj_fwd fun s8 g σ H Q hA hm => ?_) (fun s8 => ?_) (fun s8 => ?_)
  ·
    replace hA : At K g [some (.dat (eD a.1)), some (.dat (eI a.2)), some (.own none (.lst (List.map eI s8))), some (.dat (eI t5)), some (.dat (eI t6)), none, none, none] _ _ _ := hA
    refine x_test ?_
    refine x_op ?_
    refine x_op ?_
    refine (ev_own rfl) _ _ _ _ _ hA fun v H hA => ?_
    refine (ev_un ev_int o1_neg) _ _ _ _ _ hA fun v H hA => ?_
    refine f_o2m (o2_idxL (xs := s8) (e := eI) (.als rfl)) hA hm fun t9 v H hA hm => ?_
    refine (ev_var rfl) _ _ _ _ _ hA fun v H hA => ?_
    refine o2_c0 _ _ _ _ _ _ _ hA fun v H hA => ?_
    refine f_tst (P := fun c H1 => _) hA fun hA => ?_
    exact hm H hA
  ·
    change BJ K _ [some (.dat (eD a.1)), some (.dat (eI a.2)), some (.own none (.lst (List.map eI s8))), some (.dat (eI t5)), some (.dat (eI t6)), none, none, none] _ _ _ _ _
    refine fun g σ H D hA hm => x_asg ?_
    refine x_op ?_
    refine (ev_var rfl) _ _ _ _ _ hA fun v H hA => ?_
    refine x_cb1 ?_
    refine x_lcD ?_
    refine x_sl ?_
    refine (ev_var rfl) _ _ _ _ _ hA fun v H hA => ?_
    refine evo_none _ _ _ _ _ hA fun H hA => ?_
    refine (evo_some (ev_var rfl)) _ _ _ _ _ hA fun H hA => ?_
    refine f_cutD hA hm fun t10 v H hA hm => ?_
    refine wk_seq hA hm fun l11 hm => f_lcW (e := eD) (enc := eI) (js := [7]) (ps := fun b12 => [eD b12]) (fun (s13 : Unit) => [some (.dat (eD a.1)), some (.dat (eI a.2)), some (.own none (.lst (List.map eI s8))), some (.dat (eI t5)), some (.dat (eI t6)), none, none, none]) (()) (fun b => tj_name) (by decide) (hnl fun s => rfl) (hnl fun s => rfl) (by decide) (lj_fwd fun s13 b12 g σ τ H Q Qn hA hm => ?_) hm (fun r14 v H hA hm => ?_)
    ·
      replace hA : At K g [some (.dat (eD a.1)), some (.dat (eI a.2)), some (.own none (.lst (List.map eI s8))), some (.dat (eI t5)), some (.dat (eI t6)), none, none, some (.dat (eD b12))] _ _ _ := hA
      refine x_yes ?_
      refine x_op ?_
      refine x_op ?_
      refine (ev_var rfl) _ _ _ _ _ hA fun v H hA => ?_
      refine ev_int _ _ _ _ _ hA fun v H hA => ?_
      refine f_o2m o2_atD hA hm fun t15 v H hA hm => ?_
      refine x_un ?_
      refine x_op ?_
      refine x_un ?_
      refine x_op ?_
      refine (ev_own rfl) _ _ _ _ _ hA fun v H hA => ?_
      refine (ev_un ev_int o1_neg) _ _ _ _ _ hA fun v H hA => ?_
      refine f_o2m (o2_idxL (xs := s8) (e := eI) (.als rfl)) hA hm fun t16 v H hA hm => ?_
      refine o1_neg _ _ _ _ _ _ hA fun v H hA => ?_
      refine x_op ?_
      refine (ev_var rfl) _ _ _ _ _ hA fun v H hA => ?_
      refine ev_int _ _ _ _ _ hA fun v H hA => ?_
      refine f_o2m o2_atD hA hm fun t17 v H hA hm => ?_
      refine f_int hA hm fun t18 hA hm => ?_
      refine f_o2m o2_div hA hm fun t19 v H hA hm => ?_
      refine o1_neg _ _ _ _ _ _ hA fun v H hA => ?_
      refine f_int1 hA hm fun t20 hA hm => ?_
      refine f_o2m o2_mul hA hm fun t21 v H hA hm => ?_
      exact hm v H hA
    ·
      replace hA : At K g [some (.dat (eD a.1)), some (.dat (eI a.2)), some (.own none (.lst (List.map eI s8))), some (.dat (eI t5)), some (.dat (eI t6)), none, none, none] _ _ _ := hA
      refine o1_sum (xs := r14.2) .own _ _ _ _ _ _ hA fun v H hA => ?_
      refine o2_i0 _ _ _ _ _ _ _ hA fun v H hA => ?_
      refine f_setlt (e := (t5 + (r14.2).sum)) (fun t => .dat (eI t)) hA (fun t j z => nomatch z) rfl hm (fun total_22 => ?_)
      change BJ K _ [some (.dat (eD a.1)), some (.dat (eI a.2)), some (.own none (.lst (List.map eI s8))), some (.dat (eI t5)), some (.dat (eI t6)), none, some (.dat (eI total_22)), none] _ _ _ _ _
      refine fun g σ H D hA hm => x_ifS ?_
      refine x_test ?_
      refine x_op ?_
      refine (ev_var rfl) _ _ _ _ _ hA fun v H hA => ?_
      refine x_op ?_
      refine (ev_own rfl) _ _ _ _ _ hA fun v H hA => ?_
      refine (ev_un ev_int o1_neg) _ _ _ _ _ hA fun v H hA => ?_
      refine f_o2m (o2_idxL (xs := s8) (e := eI) (.als rfl)) hA hm fun t23 v H hA hm => ?_
      refine o2_eqI _ _ _ _ _ _ _ hA fun v H hA => ?_
      refine f_tst (P := fun c H1 => _) hA fun hA => ?_
      refine f_ifS hm (fun hm => ?_) (fun hm => ?_)
      ·
        refine bj_go hA hm ?_
        change BJ K _ [some (.dat (eD a.1)), some (.dat (eI a.2)), some (.own none (.lst (List.map eI s8))), some (.dat (eI t5)), some (.dat (eI t6)), none, some (.dat (eI total_22)), none] _ _ _ _ _
        refine bj_assoc ?_
        refine fun g σ H D hA hm => x_ret ?_
        refine (ev_cb1 (ev_own rfl) (o1_tuple (.l (.als rfl)))) _ _ _ _ _ hA fun v H hA => ?_
        exact hm v H _ (hA.weak1 (.d (.d .nil)) fun j z => nomatch z)
      ·
        refine bj_go hA hm ?_
        change BJ K _ [some (.dat (eD a.1)), some (.dat (eI a.2)), some (.own none (.lst (List.map eI s8))), some (.dat (eI t5)), some (.dat (eI t6)), none, some (.dat (eI total_22)), none] _ _ _ _ _
        refine bj_pass ?_
        refine fun g σ H D hA hm => x_drop ?_
        refine x_app rfl hA fun x H hA => ?_
        refine (ev_var rfl) _ _ _ _ _ hA fun v H hA => ?_
        refine f_appm (xs := s8) (e := eI) rfl hA hm fun ys24 H hA hm => ?_
        refine bj_go hA hm ?_
        change BJ K _ [some (.dat (eD a.1)), some (.dat (eI a.2)), some (.own none (.lst (List.map eI ys24))), some (.dat (eI t5)), some (.dat (eI t6)), none, some (.dat (eI total_22)), none] _ _ _ _ _
        exact bj_nx (a := ys24) (.s (.s (.s (.s (.s (.d (.d (.d .nil))))))))
  ·
    change BJ K _ [some (.dat (eD a.1)), some (.dat (eI a.2)), some (.own none (.lst (List.map eI s8))), some (.dat (eI t5)), some (.dat (eI t6)), none, none, none] _ _ _ _ _
    refine fun g σ H D hA hm => x_ret ?_
    refine (ev_cb1 (ev_own rfl) (o1_tuple (.l (.als rfl)))) _ _ _ _ _ hA fun v H hA => ?_
    exact hm v H _ (hA.weak1 (.d (.d .nil)) fun j z => nomatch z)
theorem ok_response (T : Txt K mg Z) : FnOk P w K mg base (L2.CX P w) 5 Z.f_response Z.d_response ["jobs", "place"] (Spec K Z.ec 2 pre_response f_response post_response ret_response) := by
  refine fn_ok T.d_response.F sc_response rfl m_response fun cdv A outer s H E hr => ?_
  refine ⟨_, (pss_cons (ps_set (i := 2) sc_response.nd rfl (Or.inl rfl) (pe_ix (r := rIxT K) ix_tup (pe_callS (ok_rows_of_response T) (hr.mono (by decide)) (by rfl) T.d_rows_of_response.g T.d_rows_of_response.F.kp T.d_rows_of_response.b (fun σ => passAt (takes_of rfl rfl rfl rfl) σ) (pa_cons (pv 0) (pa_cons (pv 1) pa_nil))) (pe_un un_neg pe_int) (fun _ _ => rfl)))
  (pss_cons (ps_ret (pe_ifExp (pt_cmpR op_le (pv 2) (pe_ix (r := rIxQ K) ix_q (pe_ix (r := rIxQ K) ix_q (pv 0) (pv 1) (fun _ _ => rfl)) pe_int (fun _ _ => rfl)) (nomark _)) (pv 2) pe_non))
  pss_nil)), ?_⟩
  intro a as _
  change BJ K _ [some (.dat (eD a.1)), some (.dat (eI a.2)), none] _ _ _ _ _
  refine fun g σ H D hA hm => x_asg ?_
  refine x_op ?_
  refine x_call2 ?_
  refine (ev_var rfl) _ _ _ _ _ hA fun v H hA => ?_
  refine (ev_var rfl) _ _ _ _ _ hA fun v H hA => ?_
  refine f_call [.d (eD a.1), .d (eI a.2)] (a.1, a.2) (fun r => []) hA rfl rfl True.intro (fun as h => match as, h with | [], _ => rfl) (fun _ => rfl) (fun r as h => match as, h with | [], _ => rfl) (fun r j z => nomatch z) .nil (hm.bindR.imp (fun r1 hm v H hA => ?_) fun _ q => q)
  refine (ev_un ev_int o1_neg) _ _ _ _ _ hA fun v H hA => ?_
  refine f_o2m (o2_idxT (xs := r1) (e := eI)) hA hm fun t2 v H hA hm => ?_
  refine f_setgo hA (fun j z => nomatch z) rfl hm ?_
  change BJ K _ [some (.dat (eD a.1)), some (.dat (eI a.2)), some (.dat (eI t2))] _ _ _ _ _
  refine fun g σ H D hA hm => x_ret ?_
  refine f_joinV (fun (s : (Option Int)) => [some (.dat (eD a.1)), some (.dat (eI a.2)), some (.dat (eI t2))]) (fun s => .dat ((eO eI) s)) hA hm (fun hm => ?_) (fun j3 v H hA hm => ?_)
  ·
    refine x_if ?_
    refine x_test ?_
    refine x_op ?_
    refine (ev_var rfl) _ _ _ _ _ hA fun v H hA => ?_
    refine x_op ?_
    refine x_op ?_
    refine (ev_var rfl) _ _ _ _ _ hA fun v H hA => ?_
    refine (ev_var rfl) _ _ _ _ _ hA fun v H hA => ?_
    refine f_o2m o2_atD hA hm fun t4 v H hA hm => ?_
    refine ev_int _ _ _ _ _ hA fun v H hA => ?_
    refine f_o2m o2_atD hA hm fun t5 v H hA hm => ?_
    refine f_int hA hm fun t6 hA hm => ?_
    refine o2_c0 _ _ _ _ _ _ _ hA fun v H hA => ?_
    refine f_tst (P := fun c H1 => _) hA fun hA => ?_
    refine f_pick hm (fun hm => ?_) (fun hm => ?_)
    ·
      refine (ev_var rfl) _ _ _ _ _ hA fun v H hA => ?_
      exact hm v H hA
    ·
      refine ev_non _ _ _ _ _ hA fun v H hA => ?_
      exact hm v H hA
  ·
    replace hA : At K g [some (.dat (eD a.1)), some (.dat (eI a.2)), some (.dat (eI t2))] _ _ _ := hA
    exact hm v H _ (hA.weak1 (.d (.d .nil)) fun j z => nomatch z)
theorem ok_never_misses (T : Txt K mg Z) : FnOk P w K mg base (L2.CX P w) 6 Z.f_never_misses Z.d_never_misses ["jobs"] (Spec K Z.ec 1 pre_never_misses f_never_misses post_never_misses ret_never_misses) := by
  refine fn_ok T.d_never_misses.F sc_never_misses rfl m_never_misses fun cdv A outer s H E hr => ?_
  refine ⟨_, (pss_cons (ps_expr (pe_callS (ok_check_jobs T) (hr.mono (by decide)) (by rfl) T.d_check_jobs.g T.d_check_jobs.F.kp T.d_check_jobs.b (fun σ => passAt (takes_of rfl rfl rfl rfl) σ) (pa_cons (pv 0) pa_nil)))
  (pss_cons (ps_ret (pe_callB (r := rAll K) (cr_all rfl) (by rfl) T.z_all (by decide +kernel) (pa_cons (pe_lc (own := [("place", 1)]) (g := gName 1) rfl sc_never_misses.nd (pi_range1 (by rfl) T.z_range (pa_cons (pe_callB (r := rLen K) c_len (by rfl) T.z_len (by decide +kernel) (pa_cons (pv 0) pa_nil)) pa_nil)) (blkOk_by (N := ["jobs", "place"]) (sc := defScope st_never_misses) (by decide +kernel)) (fun _ _ _ _ _ => (pg_name (i := 1) sc_never_misses.nd rfl (Or.inl rfl))) (fun _ _ _ _ _ => pts_nil) (fun _ _ _ _ _ => (pe_cmpR p_notN (pe_callS (ok_response T) (hr.mono (by decide)) (by rfl) T.d_response.g T.d_response.F.kp T.d_response.b (fun σ => passAt takes0 σ) (pa_cons (pv 0) (pa_cons (pv 1) pa_nil))) pe_non (nomark _)))) pa_nil)))
  pss_nil)), ?_⟩
  intro a as _
  change BJ K _ [some (.dat (eD a)), none] _ _ _ _ _
  refine fun g σ H D hA hm => x_drop ?_
  refine x_call1 ?_
  refine (ev_var rfl) _ _ _ _ _ hA fun v H hA => ?_
  refine f_call [.d (eD a)] a (fun r => []) hA rfl rfl True.intro (fun as h => match as, h with | [], _ => rfl) (fun _ => rfl) (fun r as h => match as, h with | [], _ => rfl) (fun r j z => nomatch z) .nil (hm.bindR.imp (fun r1 hm v H hA => ?_) fun _ q => q)
  refine f_dropgo hA hm ?_
  change BJ K _ [some (.dat (eD a)), none] _ _ _ _ _
  refine fun g σ H D hA hm => x_ret ?_
  refine x_cb1 ?_
  refine x_lcR1 ?_
  refine x_cb1 ?_
  refine (ev_var rfl) _ _ _ _ _ hA fun v H hA => ?_
  refine f_o1m o1_lenD hA hm fun t2 v H hA hm => ?_
  refine f_rng1 (b := t2) hA hm fun hm => f_lcW (e := eI) (enc := eB) (js := [1]) (ps := fun b4 => [eI b4]) (fun (s5 : Unit) => [some (.dat (eD a)), none]) (()) (fun b => tj_name) (by decide) (hnl fun s => rfl) (hnl fun s => rfl) (by decide) (lj_fwd fun s5 b4 g σ τ H Q Qn hA hm => ?_) hm (fun r6 v H hA hm => ?_)
  ·
    replace hA : At K g [some (.dat (eD a)), some (.dat (eI b4))] _ _ _ := hA
    refine x_yes ?_
    refine x_op ?_
    refine x_call2 ?_
    refine (ev_var rfl) _ _ _ _ _ hA fun v H hA => ?_
    refine (ev_var rfl) _ _ _ _ _ hA fun v H hA => ?_
    refine f_call [.d (eD a), .d (eI b4)] (a, b4) (fun r => []) hA rfl rfl True.intro (fun as h => match as, h with | [], _ => rfl) (fun _ => rfl) (fun r as h => match as, h with | [], _ => rfl) (fun r j z => nomatch z) .nil (hm.bindR.imp (fun r7 hm v H hA => ?_) fun _ q => q.elim)
    refine ev_non _ _ _ _ _ hA fun v H hA => ?_
    refine (o2_notN nn_i) _ _ _ _ _ _ _ hA fun v H hA => ?_
    exact hm v H hA
  ·
    replace hA : At K g [some (.dat (eD a)), none] _ _ _ := hA
    refine o1_all (xs := r6.2) .own _ _ _ _ _ _ hA fun v H hA => ?_
    exact hm v H _ (hA.weak1 (.d .nil) fun j z => nomatch z)
theorem ok_law_numbers (T : Txt K mg Z) : FnOk P w K mg base (L2.CX P w) 1 Z.f_law_numbers Z.d_law_numbers ["script"] (Spec K Z.ec 1 pre_law_numbers f_law_numbers post_law_numbers ret_law_numbers) := by
  refine fn_ok T.d_law_numbers.F sc_law_numbers rfl m_law_numbers fun cdv A outer s H E hr => ?_
  refine ⟨_, (pss_cons (ps_set (i := 1) sc_law_numbers.nd rfl (Or.inl rfl) (pe_lst pa_nil))
  (pss_cons (ps_for (passes_of rfl) rfl (pi_range1 (by rfl) T.z_range (pa_cons (pe_callB c_min2 (by rfl) T.z_min (by decide +kernel) (pa_cons (pe_callB (r := rLen K) c_len (by rfl) T.z_len (by decide +kernel) (pa_cons (pv 0) pa_nil)) (pa_cons pe_int pa_nil))) pa_nil)) (pg_name (i := 2) sc_law_numbers.nd rfl (Or.inl rfl)) (pss_cons (ps_set (i := 3) sc_law_numbers.nd rfl (Or.inl rfl) (pe_callTy c_int (by rfl) T.z_int (by decide +kernel) (pa_cons (pe_ix (r := rIxL K) ix_list (pv 0) (pv 2) (fun _ _ => rfl)) pa_nil)))
  (pss_cons (ps_set (i := 4) sc_law_numbers.nd rfl (Or.inl rfl) pe_int)
  (pss_cons (ps_if (pt_cmpR op_lt (pv 3) pe_int (nomark _)) (pss_cons (ps_set (i := 3) sc_law_numbers.nd rfl (Or.inl rfl) (pe_op op_sub pe_int (pv 3)))
  (pss_cons (ps_set (i := 4) sc_law_numbers.nd rfl (Or.inl rfl) pe_int)
  pss_nil)) pss_nil)
  (pss_cons (ps_if (pt_cmpR op_ge (pv 3) (pe_op op_pow pe_int pe_int) (nomark _)) (pss_cons (ps_for (passes_of rfl) rfl (pi_range1 (by rfl) T.z_range (pa_cons pe_int pa_nil)) (pg_name (i := 5) sc_law_numbers.nd rfl (Or.inl rfl)) (pss_cons (ps_if (pt_cmpR op_gt (pv 3) pe_int (nomark _)) (pss_cons (ps_expr (pe_bm PySem.F.plainAttrs_list PySem.F.slot_list_append PySem.F.type_list_append mt_append (pv 1) (pa_cons (pe_op op_mod (pe_callTy c_int (by rfl) T.z_int (by decide +kernel) (pa_cons (pv 3) pa_nil)) pe_int) pa_nil)))
  (pss_cons (ps_set (i := 3) sc_law_numbers.nd rfl (Or.inl rfl) (pe_op op_fdiv (pv 3) pe_int))
  pss_nil)) pss_nil)
  pss_nil))
  pss_nil) (pss_cons (ps_set (i := 6) sc_law_numbers.nd rfl (Or.inl rfl) (pe_op op_mod (pe_callTy c_int (by rfl) T.z_int (by decide +kernel) (pa_cons (pe_op op_add (pe_op op_add (pe_op op_add (pe_op op_mul (pv 3) pe_int) (pe_op op_mul (pv 2) pe_int)) (pe_op op_mul (pv 4) pe_int)) pe_int) pa_nil)) pe_int))
  (pss_cons (ps_for (passes_of rfl) rfl (pi_range1 (by rfl) T.z_range (pa_cons pe_int pa_nil)) (pg_name (i := 5) sc_law_numbers.nd rfl (Or.inl rfl)) (pss_cons (ps_set (i := 6) sc_law_numbers.nd rfl (Or.inl rfl) (pe_op op_mod (pe_callTy c_int (by rfl) T.z_int (by decide +kernel) (pa_cons (pe_op op_add (pe_op op_add (pe_op op_mul (pv 6) pe_int) (pe_op op_mul (pe_callTy c_int (by rfl) T.z_int (by decide +kernel) (pa_cons (pe_op op_fdiv (pv 6) pe_int) pa_nil)) (pv 5))) pe_int) pa_nil)) pe_int))
  (pss_cons (ps_expr (pe_bm PySem.F.plainAttrs_list PySem.F.slot_list_append PySem.F.type_list_append mt_append (pv 1) (pa_cons (pe_op op_mod (pe_callTy c_int (by rfl) T.z_int (by decide +kernel) (pa_cons (pe_op op_fdiv (pv 6) pe_int) pa_nil)) pe_int) pa_nil)))
  pss_nil)))
  pss_nil)))
  pss_nil)))))
  (pss_cons (ps_expr (pe_bm0 PySem.F.plainAttrs_list PySem.F.slot_list_reverse PySem.F.type_list_reverse mt_reverse (pv 1)))
  (pss_cons (ps_ret (pv 1))
  pss_nil)))), ?_⟩
  intro a as _
  change BJ K _ [some (.dat ((eL eI) a)), none, none, none, none, none, none] _ _ _ _ _
  refine fun g σ H D hA hm => x_asg ?_
  refine (ev_lst [] ea_nil) _ _ _ _ _ hA fun v H hA => ?_
  refine f_setlt (e := []) (fun t => .own none (.lst (List.map eI t))) hA (fun t j z => nomatch z) rfl hm (fun numbers_1 => ?_)
  change BJ K _ [some (.dat ((eL eI) a)), some (.own none (.lst (List.map eI numbers_1))), none, none, none, none, none] _ _ _ _ _
  refine fun g σ H D hA hm => ?_
  refine x_forR1 ?_
  refine (ev_cb2 (ev_cb1 (ev_var rfl) (o1_lenT a eI (.l .dat))) ev_int o2_min) _ _ _ _ _ hA fun v H hA => ?_
  refine f_rng1 (b := (minI ((a).length : Int) (63 : Int))) hA hm fun hm => f_for (e := eI) (fun (s3 : (List Int)) => [some (.dat ((eL eI) a)), some (.own none (.lst (List.map eI s3))), none, none, none, none, none]) (s0 := numbers_1) (.s (.s (.d (.d (.d (.d (.d .nil))))))) hm (hb_of (e := eI) (js := [2]) (ps := fun b4 => [eI b4]) (fun b => tj_name) (hjl (n := 7) (fun s => rfl) (by decide)) (fun s3 b4 => ?_)) (fun s3 => ?_)
  ·
    change BJ K _ [some (.dat ((eL eI) a)), some (.own none (.lst (List.map eI s3))), some (.dat (eI b4)), none, none, none, none] _ _ _ _ _
    refine fun g σ H D hA hm => x_asg ?_
    refine x_cb1 ?_
    refine x_op ?_
    refine (ev_var rfl) _ _ _ _ _ hA fun v H hA => ?_
    refine (ev_var rfl) _ _ _ _ _ hA fun v H hA => ?_
    refine f_o2m (o2_idxL (xs := a) (e := eI) .dat) hA hm fun t5 v H hA hm => ?_
    refine o1_int _ _ _ _ _ _ hA fun v H hA => ?_
    refine f_setgo hA (fun j z => nomatch z) rfl hm ?_
    change BJ K _ [some (.dat ((eL eI) a)), some (.own none (.lst (List.map eI s3))), some (.dat (eI b4)), some (.dat (eI t5)), none, none, none] _ _ _ _ _
    refine fun g σ H D hA hm => x_asg ?_
    refine ev_int _ _ _ _ _ hA fun v H hA => ?_
    refine f_setlt (e := (0 : Int)) (fun t => .dat (eI t)) hA (fun t j z => nomatch z) rfl hm (fun turned_6 => ?_)
    change BJ K _ [some (.dat ((eL eI) a)), some (.own none (.lst (List.map eI s3))), some (.dat (eI b4)), some (.dat (eI t5)), some (.dat (eI turned_6)), none, none] _ _ _ _ _
    refine bj_seq (n1 := fun (s7 : (Int × Int)) => [some (.dat ((eL eI) a)), some (.own none (.lst (List.map eI s3))), some (.dat (eI b4)), some (.dat (eI s7.1)), some (.dat (eI s7.2)), none, none]) ?_ (fun s7 => ?_)
    ·
      refine bj_if (evb_test (ev_op (ev_var rfl) ev_int o2_c0)) ?_ ?_
      ·
        refine fun g σ H D hA hm => x_asg ?_
        refine (ev_op ev_int (ev_var rfl) o2_i0) _ _ _ _ _ hA fun v H hA => ?_
        refine f_setlt (e := ((0 : Int) - t5)) (fun t => .dat (eI t)) hA (fun t j z => nomatch z) rfl hm (fun cell_8 => ?_)
        change BJ K _ [some (.dat ((eL eI) a)), some (.own none (.lst (List.map eI s3))), some (.dat (eI b4)), some (.dat (eI cell_8)), some (.dat (eI turned_6)), none, none] _ _ _ _ _
        refine fun g σ H D hA hm => x_asg ?_
        refine ev_int _ _ _ _ _ hA fun v H hA => ?_
        refine f_setlt (e := (1 : Int)) (fun t => .dat (eI t)) hA (fun t j z => nomatch z) rfl hm (fun turned_9 => ?_)
        change BJ K _ [some (.dat ((eL eI) a)), some (.own none (.lst (List.map eI s3))), some (.dat (eI b4)), some (.dat (eI cell_8)), some (.dat (eI turned_9)), none, none] _ _ _ _ _
        exact bj_nx (a := (cell_8, turned_9)) (.s (.s (.s (.s (.s (.d (.d .nil)))))))
      ·
        exact bj_nx (a := (t5, turned_6)) (.s (.s (.s (.s (.s (.d (.d .nil)))))))
    ·
      change BJ K _ [some (.dat ((eL eI) a)), some (.own none (.lst (List.map eI s3))), some (.dat (eI b4)), some (.dat (eI s7.1)), some (.dat (eI s7.2)), none, none] _ _ _ _ _
      refine bj_ifL (evb_test (ev_op (ev_var rfl) (ev_op ev_int ev_int o2_powK) o2_c0)) ?_ ?_
      ·
        refine bj_assoc ?_
        refine fun g σ H D hA hm => ?_
        refine x_forR1 ?_
        refine ev_int _ _ _ _ _ hA fun v H hA => ?_
        refine f_rng1 (b := (45 : Int)) hA hm fun hm => f_for (e := eI) (fun (s11 : ((List Int) × Int)) => [some (.dat ((eL eI) a)), some (.own none (.lst (List.map eI s11.1))), none, some (.dat (eI s11.2)), none, none, none]) (s0 := (s3, s7.1)) (.s (.s (.d (.s (.d (.d (.d .nil))))))) hm (hb_of (e := eI) (js := [5]) (ps := fun b12 => [eI b12]) (fun b => tj_name) (hjl (n := 7) (fun s => rfl) (by decide)) (fun s11 b12 => ?_)) (fun s11 => ?_)
        ·
          change BJ K _ [some (.dat ((eL eI) a)), some (.own none (.lst (List.map eI s11.1))), none, some (.dat (eI s11.2)), none, some (.dat (eI b12)), none] _ _ _ _ _
          refine bj_ifL (evb_test (ev_op (ev_var rfl) ev_int o2_c0)) ?_ ?_
          ·
            refine bj_assoc ?_
            refine fun g σ H D hA hm => x_drop ?_
            refine x_app rfl hA fun x H hA => ?_
            refine (ev_op (ev_cb1 (ev_var rfl) o1_int) ev_int o2_modK) _ _ _ _ _ hA fun v H hA => ?_
            refine f_appm (xs := s11.1) (e := eI) rfl hA hm fun ys13 H hA hm => ?_
            refine bj_go hA hm ?_
            change BJ K _ [some (.dat ((eL eI) a)), some (.own none (.lst (List.map eI ys13))), none, some (.dat (eI s11.2)), none, some (.dat (eI b12)), none] _ _ _ _ _
            refine bj_assoc ?_
            refine fun g σ H D hA hm => x_asg ?_
            refine (ev_op (ev_var rfl) ev_int o2_divK) _ _ _ _ _ hA fun v H hA => ?_
            refine f_setlt (e := (s11.2 / (60 : Int))) (fun t => .dat (eI t)) hA (fun t j z => nomatch z) rfl hm (fun cell_14 => ?_)
            change BJ K _ [some (.dat ((eL eI) a)), some (.own none (.lst (List.map eI ys13))), none, some (.dat (eI cell_14)), none, some (.dat (eI b12)), none] _ _ _ _ _
            refine bj_pass ?_
            exact bj_nx (a := (ys13, cell_14)) (.s (.s (.d (.s (.d (.d (.d .nil)))))))
          ·
            refine bj_pass ?_
            exact bj_nx (a := (s11.1, s11.2)) (.s (.s (.d (.s (.d (.d (.d .nil)))))))
        ·
          change BJ K _ [some (.dat ((eL eI) a)), some (.own none (.lst (List.map eI s11.1))), none, some (.dat (eI s11.2)), none, none, none] _ _ _ _ _
          refine bj_pass ?_
          exact bj_nx (a := s11.1) (.s (.s (.d (.d (.d (.d (.d .nil)))))))
      ·
        refine bj_assoc ?_
        refine fun g σ H D hA hm => x_asg ?_
        refine (ev_op (ev_cb1 (ev_op (ev_op (ev_op (ev_op (ev_var rfl) ev_int o2_mulK) (ev_op (ev_var rfl) ev_int o2_mulK) o2_i0) (ev_op (ev_var rfl) ev_int o2_mulK) o2_i0) ev_int o2_i0) o1_int) ev_int o2_modK) _ _ _ _ _ hA fun v H hA => ?_
        refine f_setlt (e := (((((s7.1 * (16807 : Int)) + (b4 * (7919 : Int))) + (s7.2 * (104729 : Int))) + (11 : Int)) % (2147483629 : Int))) (fun t => .dat (eI t)) hA (fun t j z => nomatch z) rfl hm (fun seed_15 => ?_)
        change BJ K _ [some (.dat ((eL eI) a)), some (.own none (.lst (List.map eI s3))), some (.dat (eI b4)), some (.dat (eI s7.1)), some (.dat (eI s7.2)), none, some (.dat (eI seed_15))] _ _ _ _ _
        refine bj_assoc ?_
        refine fun g σ H D hA hm => ?_
        refine x_forR1 ?_
        refine ev_int _ _ _ _ _ hA fun v H hA => ?_
        refine f_rng1 (b := (7 : Int)) hA hm fun hm => f_for (e := eI) (fun (s17 : ((List Int) × Int)) => [some (.dat ((eL eI) a)), some (.own none (.lst (List.map eI s17.1))), none, none, none, none, some (.dat (eI s17.2))]) (s0 := (s3, seed_15)) (.s (.s (.d (.d (.d (.d (.s .nil))))))) hm (hb_of (e := eI) (js := [5]) (ps := fun b18 => [eI b18]) (fun b => tj_name) (hjl (n := 7) (fun s => rfl) (by decide)) (fun s17 b18 => ?_)) (fun s17 => ?_)
        ·
          change BJ K _ [some (.dat ((eL eI) a)), some (.own none (.lst (List.map eI s17.1))), none, none, none, some (.dat (eI b18)), some (.dat (eI s17.2))] _ _ _ _ _
          refine fun g σ H D hA hm => x_asg ?_
          refine x_op ?_
          refine x_cb1 ?_
          refine x_op ?_
          refine x_op ?_
          refine (ev_op (ev_var rfl) ev_int o2_mulK) _ _ _ _ _ hA fun v H hA => ?_
          refine x_op ?_
          refine (ev_cb1 (ev_op (ev_var rfl) ev_int o2_divK) o1_int) _ _ _ _ _ hA fun v H hA => ?_
          refine (ev_var rfl) _ _ _ _ _ hA fun v H hA => ?_
          refine f_o2m o2_mul hA hm fun t19 v H hA hm => ?_
          refine o2_i0 _ _ _ _ _ _ _ hA fun v H hA => ?_
          refine ev_int _ _ _ _ _ hA fun v H hA => ?_
          refine o2_i0 _ _ _ _ _ _ _ hA fun v H hA => ?_
          refine o1_int _ _ _ _ _ _ hA fun v H hA => ?_
          refine ev_int _ _ _ _ _ hA fun v H hA => ?_
          refine (o2_modK) _ _ _ _ _ _ _ hA fun v H hA => ?_
          refine f_setlt (e := ((((s17.2 * (39373 : Int)) + t19) + (7919 : Int)) % (2147483629 : Int))) (fun t => .dat (eI t)) hA (fun t j z => nomatch z) rfl hm (fun seed_20 => ?_)
          change BJ K _ [some (.dat ((eL eI) a)), some (.own none (.lst (List.map eI s17.1))), none, none, none, some (.dat (eI b18)), some (.dat (eI seed_20))] _ _ _ _ _
          refine fun g σ H D hA hm => x_drop ?_
          refine x_app rfl hA fun x H hA => ?_
          refine (ev_op (ev_cb1 (ev_op (ev_var rfl) ev_int o2_divK) o1_int) ev_int o2_modK) _ _ _ _ _ hA fun v H hA => ?_
          refine f_appm (xs := s17.1) (e := eI) rfl hA hm fun ys21 H hA hm => ?_
          refine bj_go hA hm ?_
          change BJ K _ [some (.dat ((eL eI) a)), some (.own none (.lst (List.map eI ys21))), none, none, none, some (.dat (eI b18)), some (.dat (eI seed_20))] _ _ _ _ _
          exact bj_nx (a := (ys21, seed_20)) (.s (.s (.d (.d (.d (.d (.s .nil)))))))
        ·
          change BJ K _ [some (.dat ((eL eI) a)), some (.own none (.lst (List.map eI s17.1))), none, none, none, none, some (.dat (eI s17.2))] _ _ _ _ _
          refine bj_pass ?_
          exact bj_nx (a := s17.1) (.s (.s (.d (.d (.d (.d (.d .nil)))))))
  ·
    change BJ K _ [some (.dat ((eL eI) a)), some (.own none (.lst (List.map eI s3))), none, none, none, none, none] _ _ _ _ _
    refine bj_rev (xs := s3) (e := eI) rfl (fun ys22 => ?_)
    change BJ K _ [some (.dat ((eL eI) a)), some (.own none (.lst (List.map eI ys22))), none, none, none, none, none] _ _ _ _ _
    exact bj_retO (r := ys22) (i := 1) rfl rfl (.d .nil)
theorem ok_law_draw (T : Txt K mg Z) : FnOk P w K mg base (L2.CX P w) 1 Z.f_law_draw Z.d_law_draw ["numbers", "many"] (Spec K Z.ec 2 pre_law_draw f_law_draw post_law_draw ret_law_draw) := by
  refine fn_ok T.d_law_draw.F sc_law_draw rfl m_law_draw fun cdv A outer s H E hr => ?_
  refine ⟨_, (pss_cons (ps_if (pt_cmpR op_eq (pe_callB (r := rLen K) c_len (by rfl) T.z_len (by decide +kernel) (pa_cons (pv 0) pa_nil)) pe_int (nomark _)) (pss_cons (ps_ret pe_int)
  pss_nil) pss_nil)
  (pss_cons (ps_ret (pe_op op_mod (pe_callTy c_int (by rfl) T.z_int (by decide +kernel) (pa_cons (pe_bm0 PySem.F.plainAttrs_list PySem.F.slot_list_pop PySem.F.type_list_pop mt_pop (pv 0)) pa_nil)) (pv 1)))
  pss_nil)), ?_⟩
  intro a as _
  change BJ K _ [some (.own (as[0]?) (.lst (List.map eI a.1))), some (.dat (eI a.2))] _ _ _ _ _
  refine bj_ifL (evb_test (ev_op (ev_cb1 (ev_own rfl) (o1_lenT a.1 eI (.l (.als rfl)))) ev_int o2_eqI)) ?_ ?_
  ·
    refine bj_assoc ?_
    refine fun g σ H D hA hm => x_ret ?_
    refine ev_int _ _ _ _ _ hA fun v H hA => ?_
    exact hm v H _ (hA.weak1 (.s (.d .nil)) fun j z => nomatch z)
  ·
    refine bj_pass ?_
    refine fun g σ H D hA hm => x_ret ?_
    refine x_op ?_
    refine x_cb1 ?_
    refine f_popm (xs := a.1) (e := eI) rfl hA hm fun t1 v H hA hm => ?_
    replace hA : At K g [some (.own (as[0]?) (.lst (List.map eI t1.2))), some (.dat (eI a.2))] _ _ _ := hA
    refine o1_int _ _ _ _ _ _ hA fun v H hA => ?_
    refine (ev_var rfl) _ _ _ _ _ hA fun v H hA => ?_
    refine f_o2m o2_mod hA hm fun t2 v H hA hm => ?_
    exact hm v H _ (hA.weak1 (.s (.d .nil)) fun j z => nomatch z)
theorem ok_law_int (T : Txt K mg Z) : FnOk P w K mg base (L2.CX P w) 1 Z.f_law_int Z.d_law_int ["value"] (Spec K Z.ec 1 pre_law_int f_law_int post_law_int ret_law_int) := by
  refine fn_ok T.d_law_int.F sc_law_int rfl m_law_int fun cdv A outer s H E hr => ?_
  refine ⟨_, (pss_cons (ps_ret (pe_and (pe_callB (r := rIsi K) call_isi (by rfl) T.z_isinstance (by decide +kernel) (pa_cons (pv 0) (pa_cons (pe_bltn (v := .ty "int") (u := .type "int") (by rfl) T.z_int (by decide +kernel) rfl) pa_nil))) (pe_one (pe_not (pe_callB (r := rIsi K) call_isi (by rfl) T.z_isinstance (by decide +kernel) (pa_cons (pv 0) (pa_cons (pe_bltn (v := .ty "bool") (u := .type "bool") (by rfl) T.z_bool (by decide +kernel) rfl) pa_nil)))))))
  pss_nil), ?_⟩
  intro a as _
  change BJ K _ [some (.dat (eD a))] _ _ _ _ _
  refine fun g σ H D hA hm => x_ret ?_
  refine (ev_andV (ev_isi (d := a) .int (ev_var rfl) dpt_d) (ev_notV (ev_isi (d := a) .bool (ev_var rfl) dpt_d))) _ _ _ _ _ hA fun v H hA => ?_
  exact hm v H _ (hA.weak1 (.d .nil) fun j z => nomatch z)
theorem ok_law_responses (T : Txt K mg Z) : FnOk P w K mg base (L2.CX P w) 1 Z.f_law_responses Z.d_law_responses ["jobs", "place"] (Spec K Z.ec 2 pre_law_responses f_law_responses post_law_responses ret_law_responses) := by
  refine fn_ok T.d_law_responses.F sc_law_responses rfl m_law_responses fun cdv A outer s H E hr => ?_
  refine ⟨_, (pss_cons (ps_set (i := 2) sc_law_responses.nd rfl (Or.inl rfl) (pe_lst (pa_cons (pe_ix (r := rIxT K) ix_tup (pe_ix (r := rIxT K) ix_tup (pv 0) (pv 1) (fun _ _ => rfl)) pe_int (fun _ _ => rfl)) pa_nil)))
  (pss_cons (ps_for (passes_of rfl) rfl (pi_range1 (by rfl) T.z_range (pa_cons pe_int pa_nil)) (pg_name (i := 3) sc_law_responses.nd rfl (Or.inl rfl)) (pss_cons (ps_set (i := 4) sc_law_responses.nd rfl (Or.inl rfl) (pe_ix (r := rIxL K) ix_list (pv 2) (pe_op op_sub (pe_callB (r := rLen K) c_len (by rfl) T.z_len (by decide +kernel) (pa_cons (pv 2) pa_nil)) pe_int) (fun _ _ => rfl)))
  (pss_cons (ps_if (pt_cmpR op_gt (pv 4) (pe_ix (r := rIxT K) ix_tup (pe_ix (r := rIxT K) ix_tup (pv 0) (pv 1) (fun _ _ => rfl)) pe_int (fun _ _ => rfl)) (nomark _)) (pss_cons (ps_ret (pv 2))
  pss_nil) pss_nil)
  (pss_cons (ps_set (i := 5) sc_law_responses.nd rfl (Or.inl rfl) (pe_ix (r := rIxT K) ix_tup (pe_ix (r := rIxT K) ix_tup (pv 0) (pv 1) (fun _ _ => rfl)) pe_int (fun _ _ => rfl)))
  (pss_cons (ps_for (passes_of rfl) rfl (pi_range1 (by rfl) T.z_range (pa_cons (pv 1) pa_nil)) (pg_name (i := 6) sc_law_responses.nd rfl (Or.inl rfl)) (pss_cons (ps_set (i := 5) sc_law_responses.nd rfl (Or.inl rfl) (pe_op op_add (pv 5) (pe_op op_mul (pe_ix (r := rIxT K) ix_tup (pe_ix (r := rIxT K) ix_tup (pv 0) (pv 6) (fun _ _ => rfl)) pe_int (fun _ _ => rfl)) (pe_callTy c_int (by rfl) T.z_int (by decide +kernel) (pa_cons (pe_op op_fdiv (pe_op op_sub (pe_op op_add (pv 4) (pe_ix (r := rIxT K) ix_tup (pe_ix (r := rIxT K) ix_tup (pv 0) (pv 6) (fun _ _ => rfl)) pe_int (fun _ _ => rfl))) pe_int) (pe_ix (r := rIxT K) ix_tup (pe_ix (r := rIxT K) ix_tup (pv 0) (pv 6) (fun _ _ => rfl)) pe_int (fun _ _ => rfl))) pa_nil)))))
  pss_nil))
  (pss_cons (ps_if (pt_cmpR op_eq (pv 5) (pv 4) (nomark _)) (pss_cons (ps_ret (pv 2))
  pss_nil) pss_nil)
  (pss_cons (ps_expr (pe_bm PySem.F.plainAttrs_list PySem.F.slot_list_append PySem.F.type_list_append mt_append (pv 2) (pa_cons (pv 5) pa_nil)))
  pss_nil)))))))
  (pss_cons (ps_ret (pv 2))
  pss_nil))), ?_⟩
  intro a as _
  change BJ K _ [some (.dat ((eT (eP3 eI eI eI)) a.1)), some (.dat (eI a.2)), none, none, none, none, none] _ _ _ _ _
  refine fun g σ H D hA hm => x_asg ?_
  refine x_lst ?_
  refine x_cons ?_
  refine x_op ?_
  refine x_op ?_
  refine (ev_var rfl) _ _ _ _ _ hA fun v H hA => ?_
  refine (ev_var rfl) _ _ _ _ _ hA fun v H hA => ?_
  refine f_o2m (o2_idxT (xs := a.1) (e := (eP3 eI eI eI))) hA hm fun t1 v H hA hm => ?_
  refine ev_int _ _ _ _ _ hA fun v H hA => ?_
  refine (o2_ixK (p := eI t1.1) rfl) _ _ _ _ _ _ _ hA fun v H hA => ?_
  refine x_nil ?_
  refine f_lst (vs := [_]) [eI t1.1] hA rfl (Nat.le_of_ble_eq_true rfl) fun v H hA => ?_
  refine f_setlt (e := [t1.1]) (fun t => .own none (.lst (List.map eI t))) hA (fun t j z => nomatch z) rfl hm (fun row_2 => ?_)
  change BJ K _ [some (.dat ((eT (eP3 eI eI eI)) a.1)), some (.dat (eI a.2)), some (.own none (.lst (List.map eI row_2))), none, none, none, none] _ _ _ _ _
  refine fun g σ H D hA hm => ?_
  refine x_forR1 ?_
  refine ev_int _ _ _ _ _ hA fun v H hA => ?_
  refine f_rng1 (b := (200 : Int)) hA hm fun hm => f_for (e := eI) (fun (s4 : (List Int)) => [some (.dat ((eT (eP3 eI eI eI)) a.1)), some (.dat (eI a.2)), some (.own none (.lst (List.map eI s4))), none, none, none, none]) (s0 := row_2) (.s (.s (.s (.d (.d (.d (.d .nil))))))) hm (hb_of (e := eI) (js := [3]) (ps := fun b5 => [eI b5]) (fun b => tj_name) (hjl (n := 7) (fun s => rfl) (by decide)) (fun s4 b5 => ?_)) (fun s4 => ?_)
  ·
    change BJ K _ [some (.dat ((eT (eP3 eI eI eI)) a.1)), some (.dat (eI a.2)), some (.own none (.lst (List.map eI s4))), some (.dat (eI b5)), none, none, none] _ _ _ _ _
    refine fun g σ H D hA hm => x_asg ?_
    refine x_op ?_
    refine (ev_own rfl) _ _ _ _ _ hA fun v H hA => ?_
    refine (ev_op (ev_cb1 (ev_own rfl) (o1_lenT s4 eI (.l (.als rfl)))) ev_int o2_i0) _ _ _ _ _ hA fun v H hA => ?_
    refine f_o2m (o2_idxL (xs := s4) (e := eI) (.als rfl)) hA hm fun t6 v H hA hm => ?_
    refine f_setgo hA (fun j z => nomatch z) rfl hm ?_
    change BJ K _ [some (.dat ((eT (eP3 eI eI eI)) a.1)), some (.dat (eI a.2)), some (.own none (.lst (List.map eI s4))), some (.dat (eI b5)), some (.dat (eI t6)), none, none] _ _ _ _ _
    refine fun g σ H D hA hm => x_ifS ?_
    refine x_test ?_
    refine x_op ?_
    refine (ev_var rfl) _ _ _ _ _ hA fun v H hA => ?_
    refine x_op ?_
    refine x_op ?_
    refine (ev_var rfl) _ _ _ _ _ hA fun v H hA => ?_
    refine (ev_var rfl) _ _ _ _ _ hA fun v H hA => ?_
    refine f_o2m (o2_idxT (xs := a.1) (e := (eP3 eI eI eI))) hA hm fun t7 v H hA hm => ?_
    refine ev_int _ _ _ _ _ hA fun v H hA => ?_
    refine (o2_ixK (p := eI t7.2.1) rfl) _ _ _ _ _ _ _ hA fun v H hA => ?_
    refine o2_c0 _ _ _ _ _ _ _ hA fun v H hA => ?_
    refine f_tst (P := fun c H1 => _) hA fun hA => ?_
    refine f_ifS hm (fun hm => ?_) (fun hm => ?_)
    ·
      refine bj_go hA hm ?_
      change BJ K _ [some (.dat ((eT (eP3 eI eI eI)) a.1)), some (.dat (eI a.2)), some (.own none (.lst (List.map eI s4))), some (.dat (eI b5)), some (.dat (eI t6)), none, none] _ _ _ _ _
      refine bj_assoc ?_
      exact bj_retO (r := s4) (i := 2) rfl rfl (.d (.d .nil))
    ·
      refine bj_go hA hm ?_
      change BJ K _ [some (.dat ((eT (eP3 eI eI eI)) a.1)), some (.dat (eI a.2)), some (.own none (.lst (List.map eI s4))), some (.dat (eI b5)), some (.dat (eI t6)), none, none] _ _ _ _ _
      refine bj_pass ?_
      refine fun g σ H D hA hm => x_asg ?_
      refine x_op ?_
      refine x_op ?_
      refine (ev_var rfl) _ _ _ _ _ hA fun v H hA => ?_
      refine (ev_var rfl) _ _ _ _ _ hA fun v H hA => ?_
      refine f_o2m (o2_idxT (xs := a.1) (e := (eP3 eI eI eI))) hA hm fun t8 v H hA hm => ?_
      refine ev_int _ _ _ _ _ hA fun v H hA => ?_
      refine (o2_ixK (p := eI t8.1) rfl) _ _ _ _ _ _ _ hA fun v H hA => ?_
      refine f_setgo hA (fun j z => nomatch z) rfl hm ?_
      change BJ K _ [some (.dat ((eT (eP3 eI eI eI)) a.1)), some (.dat (eI a.2)), some (.own none (.lst (List.map eI s4))), some (.dat (eI b5)), some (.dat (eI t6)), some (.dat (eI t8.1)), none] _ _ _ _ _
      refine fun g σ H D hA hm => ?_
      refine x_forR1 ?_
      refine (ev_var rfl) _ _ _ _ _ hA fun v H hA => ?_
      refine f_rng1 (b := a.2) hA hm fun hm => f_for (e := eI) (fun (s10 : Int) => [some (.dat ((eT (eP3 eI eI eI)) a.1)), some (.dat (eI a.2)), some (.own none (.lst (List.map eI s4))), none, some (.dat (eI t6)), some (.dat (eI s10)), none]) (s0 := t8.1) (.s (.s (.s (.d (.s (.s (.d .nil))))))) hm (hb_of (e := eI) (js := [6]) (ps := fun b11 => [eI b11]) (fun b => tj_name) (hjl (n := 7) (fun s => rfl) (by decide)) (fun s10 b11 => ?_)) (fun s10 => ?_)
      ·
        change BJ K _ [some (.dat ((eT (eP3 eI eI eI)) a.1)), some (.dat (eI a.2)), some (.own none (.lst (List.map eI s4))), none, some (.dat (eI t6)), some (.dat (eI s10)), some (.dat (eI b11))] _ _ _ _ _
        refine fun g σ H D hA hm => x_asg ?_
        refine x_op ?_
        refine (ev_var rfl) _ _ _ _ _ hA fun v H hA => ?_
        refine x_op ?_
        refine x_op ?_
        refine x_op ?_
        refine (ev_var rfl) _ _ _ _ _ hA fun v H hA => ?_
        refine (ev_var rfl) _ _ _ _ _ hA fun v H hA => ?_
        refine f_o2m (o2_idxT (xs := a.1) (e := (eP3 eI eI eI))) hA hm fun t12 v H hA hm => ?_
        refine ev_int _ _ _ _ _ hA fun v H hA => ?_
        refine (o2_ixK (p := eI t12.1) rfl) _ _ _ _ _ _ _ hA fun v H hA => ?_
        refine x_cb1 ?_
        refine x_op ?_
        refine x_op ?_
        refine x_op ?_
        refine (ev_var rfl) _ _ _ _ _ hA fun v H hA => ?_
        refine x_op ?_
        refine x_op ?_
        refine (ev_var rfl) _ _ _ _ _ hA fun v H hA => ?_
        refine (ev_var rfl) _ _ _ _ _ hA fun v H hA => ?_
        refine f_o2m (o2_idxT (xs := a.1) (e := (eP3 eI eI eI))) hA hm fun t13 v H hA hm => ?_
        refine ev_int _ _ _ _ _ hA fun v H hA => ?_
        refine (o2_ixK (p := eI t13.2.1) rfl) _ _ _ _ _ _ _ hA fun v H hA => ?_
        refine o2_i0 _ _ _ _ _ _ _ hA fun v H hA => ?_
        refine ev_int _ _ _ _ _ hA fun v H hA => ?_
        refine o2_i0 _ _ _ _ _ _ _ hA fun v H hA => ?_
        refine x_op ?_
        refine x_op ?_
        refine (ev_var rfl) _ _ _ _ _ hA fun v H hA => ?_
        refine (ev_var rfl) _ _ _ _ _ hA fun v H hA => ?_
        refine f_o2m (o2_idxT (xs := a.1) (e := (eP3 eI eI eI))) hA hm fun t14 v H hA hm => ?_
        refine ev_int _ _ _ _ _ hA fun v H hA => ?_
        refine (o2_ixK (p := eI t14.2.1) rfl) _ _ _ _ _ _ _ hA fun v H hA => ?_
        refine f_o2m o2_div hA hm fun t15 v H hA hm => ?_
        refine o1_int _ _ _ _ _ _ hA fun v H hA => ?_
        refine f_o2m o2_mul hA hm fun t16 v H hA hm => ?_
        refine o2_i0 _ _ _ _ _ _ _ hA fun v H hA => ?_
        refine f_setlt (e := (s10 + t16)) (fun t => .dat (eI t)) hA (fun t j z => nomatch z) rfl hm (fun total_17 => ?_)
        change BJ K _ [some (.dat ((eT (eP3 eI eI eI)) a.1)), some (.dat (eI a.2)), some (.own none (.lst (List.map eI s4))), none, some (.dat (eI t6)), some (.dat (eI total_17)), some (.dat (eI b11))] _ _ _ _ _
        exact bj_nx (a := total_17) (.s (.s (.s (.d (.s (.s (.d .nil)))))))
      ·
        change BJ K _ [some (.dat ((eT (eP3 eI eI eI)) a.1)), some (.dat (eI a.2)), some (.own none (.lst (List.map eI s4))), none, some (.dat (eI t6)), some (.dat (eI s10)), none] _ _ _ _ _
        refine bj_ifL (evb_test (ev_op (ev_var rfl) (ev_var rfl) o2_eqI)) ?_ ?_
        ·
          refine bj_assoc ?_
          exact bj_retO (r := s4) (i := 2) rfl rfl (.d (.d .nil))
        ·
          refine bj_pass ?_
          refine fun g σ H D hA hm => x_drop ?_
          refine x_app rfl hA fun x H hA => ?_
          refine (ev_var rfl) _ _ _ _ _ hA fun v H hA => ?_
          refine f_appm (xs := s4) (e := eI) rfl hA hm fun ys18 H hA hm => ?_
          refine bj_go hA hm ?_
          change BJ K _ [some (.dat ((eT (eP3 eI eI eI)) a.1)), some (.dat (eI a.2)), some (.own none (.lst (List.map eI ys18))), none, some (.dat (eI t6)), some (.dat (eI s10)), none] _ _ _ _ _
          exact bj_nx (a := ys18) (.s (.s (.s (.d (.d (.d (.d .nil)))))))
  ·
    change BJ K _ [some (.dat ((eT (eP3 eI eI eI)) a.1)), some (.dat (eI a.2)), some (.own none (.lst (List.map eI s4))), none, none, none, none] _ _ _ _ _
    exact bj_retO (r := s4) (i := 2) rfl rfl (.d (.d .nil))
theorem ok_law_common (T : Txt K mg Z) : FnOk P w K mg base (L2.CX P w) 1 Z.f_law_common Z.d_law_common ["jobs"] (Spec K Z.ec 1 pre_law_common f_law_common post_law_common ret_law_common) := by
  refine fn_ok T.d_law_common.F sc_law_common rfl m_law_common fun cdv A outer s H E hr => ?_
  refine ⟨_, (pss_cons (ps_for (passes_of rfl) rfl (pi_range2 (by rfl) T.z_range (pa_cons pe_int (pa_cons pe_int pa_nil))) (pg_name (i := 1) sc_law_common.nd rfl (Or.inr rfl)) (pss_cons (ps_if (pt_cmpR op_eq (pe_callB (r := rLen K) c_len (by rfl) T.z_len (by decide +kernel) (pa_cons (pe_lc (own := [("job", 2)]) (g := gName 2) rfl sc_law_common.nd (pi_tup (pv 0)) (blkOk_by (N := ["jobs", "common", "job"]) (sc := defScope st_law_common) (by decide +kernel)) (fun _ _ _ _ _ => (pg_name (i := 2) sc_law_common.nd rfl (Or.inl rfl))) (fun _ _ _ _ _ => (pts_one (pt_cmpR op_ne (pe_op op_mod (pe_callTy c_int (by rfl) T.z_int (by decide +kernel) (pa_cons (pv 1) pa_nil)) (pe_ix (r := rIxT K) ix_tup (pv 2) pe_int (fun _ _ => rfl))) pe_int (nomark _)))) (fun _ _ _ _ _ => (pv 2))) pa_nil)) pe_int (nomark _)) (pss_cons (ps_ret (pv 1))
  pss_nil) pss_nil)
  pss_nil))
  (pss_cons (ps_ret pe_int)
  pss_nil)), ?_⟩
  intro a as _
  change BJ K _ [some (.dat ((eT (eP3 eI eI eI)) a)), none, none] _ _ _ _ _
  refine fun g σ H D hA hm => ?_
  refine x_forR2 ?_
  refine ev_int _ _ _ _ _ hA fun v H hA => ?_
  refine ev_int _ _ _ _ _ hA fun v H hA => ?_
  refine f_rng2 (a := (1 : Int)) (b := (31 : Int)) hA hm fun hm => f_for (e := eI) (fun (s2 : Unit) => [some (.dat ((eT (eP3 eI eI eI)) a)), none, none]) (s0 := ()) (.s (.d (.d .nil))) hm (hb_of (e := eI) (js := [1]) (ps := fun b3 => [eI b3]) (fun b => tj_name) (hjl (n := 3) (fun s => rfl) (by decide)) (fun s2 b3 => ?_)) (fun s2 => ?_)
  ·
    change BJ K _ [some (.dat ((eT (eP3 eI eI eI)) a)), some (.dat (eI b3)), none] _ _ _ _ _
    refine fun g σ H D hA hm => x_ifS ?_
    refine x_test ?_
    refine x_op ?_
    refine x_cb1 ?_
    refine x_lcT ?_
    refine (ev_var rfl) _ _ _ _ _ hA fun v H hA => ?_
    refine wk_tup (xs := a) (e := (eP3 eI eI eI)) hA (f_lcW (e := (eP3 eI eI eI)) (enc := (eP3 eI eI eI)) (js := [2]) (ps := fun b4 => [(eP3 eI eI eI) b4]) (fun (s5 : Unit) => [some (.dat ((eT (eP3 eI eI eI)) a)), some (.dat (eI b3)), none]) (()) (fun b => tj_name) (by decide) (hnl fun s => rfl) (hnl fun s => rfl) (by decide) (lj_fwd fun s5 b4 g σ τ H Q Qn hA hm => ?_) hm (fun r6 v H hA hm => ?_))
    ·
      replace hA : At K g [some (.dat ((eT (eP3 eI eI eI)) a)), some (.dat (eI b3)), some (.dat ((eP3 eI eI eI) b4))] _ _ _ := hA
      refine x_test ?_
      refine x_op ?_
      refine x_op ?_
      refine (ev_cb1 (ev_var rfl) o1_int) _ _ _ _ _ hA fun v H hA => ?_
      refine (ev_op (ev_var rfl) ev_int (o2_ixK (p := eI b4.2.1))) _ _ _ _ _ hA fun v H hA => ?_
      refine f_o2m o2_mod hA hm fun t7 v H hA hm => ?_
      refine ev_int _ _ _ _ _ hA fun v H hA => ?_
      refine o2_neI _ _ _ _ _ _ _ hA fun v H hA => ?_
      refine f_tst (P := fun c H1 => _) hA fun hA => ?_
      refine f_pick hm (fun hm => ?_) (fun hm => ?_)
      ·
        refine (ev_var rfl) _ _ _ _ _ hA fun v H hA => ?_
        exact hm v H hA
      ·
        exact hm H hA
    ·
      replace hA : At K g [some (.dat ((eT (eP3 eI eI eI)) a)), some (.dat (eI b3)), none] _ _ _ := hA
      refine o1_lenT r6.2 (eP3 eI eI eI) (.l .own) _ _ _ _ _ _ hA fun v H hA => ?_
      refine ev_int _ _ _ _ _ hA fun v H hA => ?_
      refine o2_eqI _ _ _ _ _ _ _ hA fun v H hA => ?_
      refine f_tst (P := fun c H1 => _) hA fun hA => ?_
      refine f_ifS hm (fun hm => ?_) (fun hm => ?_)
      ·
        refine bj_go hA hm ?_
        change BJ K _ [some (.dat ((eT (eP3 eI eI eI)) a)), some (.dat (eI b3)), none] _ _ _ _ _
        refine bj_assoc ?_
        refine fun g σ H D hA hm => x_ret ?_
        refine (ev_var rfl) _ _ _ _ _ hA fun v H hA => ?_
        exact hm v H _ (hA.weak1 (.d .nil) fun j z => nomatch z)
      ·
        refine bj_go hA hm ?_
        change BJ K _ [some (.dat ((eT (eP3 eI eI eI)) a)), some (.dat (eI b3)), none] _ _ _ _ _
        refine bj_pass ?_
        exact bj_nx (a := ()) (.s (.d (.d .nil)))
  ·
    change BJ K _ [some (.dat ((eT (eP3 eI eI eI)) a)), none, none] _ _ _ _ _
    refine fun g σ H D hA hm => x_ret ?_
    refine ev_int _ _ _ _ _ hA fun v H hA => ?_
    exact hm v H _ (hA.weak1 (.d .nil) fun j z => nomatch z)
theorem ok_law_times (T : Txt K mg Z) : FnOk P w K mg base (L2.CX P w) 2 Z.f_law_times Z.d_law_times ["jobs"] (Spec K Z.ec 1 pre_law_times f_law_times post_law_times ret_law_times) := by
  refine fn_ok T.d_law_times.F sc_law_times rfl m_law_times fun cdv A outer s H E hr => ?_
  refine ⟨_, (pss_cons (ps_setLc (i := 1) (own := [("job", 10)]) (g := gName 10) rfl sc_law_times.nd rfl rfl (sw_true rfl rfl rfl (by decide +kernel)) (pi_tup (pv 0)) (blkOk_by (N := ["jobs", "left", "came", "longest", "common", "kept", "still", "tick", "t", "run", "job"]) (sc := defScope st_law_times) (by decide +kernel)) (fun _ _ _ _ _ => (pg_name (i := 10) sc_law_times.nd rfl (Or.inl rfl))) (fun _ _ _ _ _ => pts_nil) (fun _ _ _ _ _ => pe_int))
  (pss_cons (ps_setLc (i := 2) (own := [("job", 10)]) (g := gName 10) rfl sc_law_times.nd rfl rfl (sw_true rfl rfl rfl (by decide +kernel)) (pi_tup (pv 0)) (blkOk_by (N := ["jobs", "left", "came", "longest", "common", "kept", "still", "tick", "t", "run", "job"]) (sc := defScope st_law_times) (by decide +kernel)) (fun _ _ _ _ _ => (pg_name (i := 10) sc_law_times.nd rfl (Or.inl rfl))) (fun _ _ _ _ _ => pts_nil) (fun _ _ _ _ _ => pe_int))
  (pss_cons (ps_setLc (i := 3) (own := [("job", 10)]) (g := gName 10) rfl sc_law_times.nd rfl rfl (sw_true rfl rfl rfl (by decide +kernel)) (pi_tup (pv 0)) (blkOk_by (N := ["jobs", "left", "came", "longest", "common", "kept", "still", "tick", "t", "run", "job"]) (sc := defScope st_law_times) (by decide +kernel)) (fun _ _ _ _ _ => (pg_name (i := 10) sc_law_times.nd rfl (Or.inl rfl))) (fun _ _ _ _ _ => pts_nil) (fun _ _ _ _ _ => pe_int))
  (pss_cons (ps_set (i := 4) sc_law_times.nd rfl (Or.inl rfl) (pe_callS (ok_law_common T) (hr.mono (by decide)) (by rfl) T.d_law_common.g T.d_law_common.F.kp T.d_law_common.b (fun σ => passAt (takes_of rfl rfl rfl rfl) σ) (pa_cons (pv 0) pa_nil)))
  (pss_cons (ps_set (i := 5) sc_law_times.nd rfl (Or.inl rfl) (pe_lst (pa_cons (pe_un un_neg pe_int) pa_nil)))
  (pss_cons (ps_set (i := 6) sc_law_times.nd rfl (Or.inl rfl) (pe_un un_neg pe_int))
  (pss_cons (ps_for (passes_of rfl) rfl (pi_range1 (by rfl) T.z_range (pa_cons pe_int pa_nil)) (pg_name (i := 7) sc_law_times.nd rfl (Or.inl rfl)) (pss_cons (ps_if (pt_cmpR op_eq (pe_op op_mod (pe_callTy c_int (by rfl) T.z_int (by decide +kernel) (pa_cons (pv 7) pa_nil)) (pv 4)) pe_int (nomark _)) (pss_cons (ps_if (pt_cmpR op_ge (pv 6) pe_int (nomark _)) (pss_cons (ps_ret (pe_lst (pa_cons pe_non (pa_cons (pv 3) pa_nil))))
  pss_nil) pss_nil)
  (pss_cons (ps_if (pt_cmpR (r := rEqD K) (op_eqD hr.units) (pv 5) (pv 1) (nomark _)) (pss_cons (ps_set (i := 6) sc_law_times.nd rfl (Or.inl rfl) (pv 7))
  pss_nil) pss_nil)
  (pss_cons (ps_set (i := 5) sc_law_times.nd rfl (Or.inl rfl) (pe_callTy (r := rList K) c_list (by rfl) T.z_list (by decide +kernel) (pa_cons (pv 1) pa_nil)))
  pss_nil))) pss_nil)
  (pss_cons (ps_for (passes_of rfl) rfl (pi_range1 (by rfl) T.z_range (pa_cons (pe_callB (r := rLen K) c_len (by rfl) T.z_len (by decide +kernel) (pa_cons (pv 0) pa_nil)) pa_nil)) (pg_name (i := 8) sc_law_times.nd rfl (Or.inl rfl)) (pss_cons (ps_if (pt_cmpR op_eq (pe_op op_mod (pe_callTy c_int (by rfl) T.z_int (by decide +kernel) (pa_cons (pv 7) pa_nil)) (pe_ix (r := rIxT K) ix_tup (pe_ix (r := rIxT K) ix_tup (pv 0) (pv 8) (fun _ _ => rfl)) pe_int (fun _ _ => rfl))) (pe_ix (r := rIxT K) ix_tup (pe_ix (r := rIxT K) ix_tup (pv 0) (pv 8) (fun _ _ => rfl)) pe_int (fun _ _ => rfl)) (nomark _)) (pss_cons (ps_if (pt_cmpR op_gt (pe_ix (r := rIxL K) ix_list (pv 1) (pv 8) (fun _ _ => rfl)) pe_int (nomark _)) (pss_cons (ps_ret (pe_lst (pa_cons (pe_tup (pa_cons (pv 8) (pa_cons (pv 7) pa_nil))) (pa_cons (pv 3) pa_nil))))
  pss_nil) pss_nil)
  (pss_cons (ps_asg (pe_ix (r := rIxT K) ix_tup (pe_ix (r := rIxT K) ix_tup (pv 0) (pv 8) (fun _ _ => rfl)) pe_int (fun _ _ => rfl)) (pg_sub (pv 1) (pv 8) set_list))
  (pss_cons (ps_asg (pv 7) (pg_sub (pv 2) (pv 8) set_list))
  pss_nil))) pss_nil)
  pss_nil))
  (pss_cons (ps_set (i := 9) sc_law_times.nd rfl (Or.inl rfl) pe_bl)
  (pss_cons (ps_for (passes_of rfl) rfl (pi_range1 (by rfl) T.z_range (pa_cons (pe_callB (r := rLen K) c_len (by rfl) T.z_len (by decide +kernel) (pa_cons (pv 0) pa_nil)) pa_nil)) (pg_name (i := 8) sc_law_times.nd rfl (Or.inl rfl)) (pss_cons (ps_if (pw_and (pt_cmpR op_gt (pe_ix (r := rIxL K) ix_list (pv 1) (pv 8) (fun _ _ => rfl)) pe_int (nomark _)) (pw_and1 (pt_not (pt_val (pv 9))))).pt (pss_cons (ps_set (i := 9) sc_law_times.nd rfl (Or.inl rfl) pe_bl)
  (pss_cons (ps_asg (pe_op op_sub (pe_ix (r := rIxL K) ix_list (pv 1) (pv 8) (fun _ _ => rfl)) pe_int) (pg_sub (pv 1) (pv 8) set_list))
  (pss_cons (ps_if (pt_cmpR op_eq (pe_ix (r := rIxL K) ix_list (pv 1) (pv 8) (fun _ _ => rfl)) pe_int (nomark _)) (pss_cons (ps_asg (pe_callB c_max2 (by rfl) T.z_max (by decide +kernel) (pa_cons (pe_ix (r := rIxL K) ix_list (pv 3) (pv 8) (fun _ _ => rfl)) (pa_cons (pe_op op_sub (pe_op op_add (pv 7) pe_int) (pe_ix (r := rIxL K) ix_list (pv 2) (pv 8) (fun _ _ => rfl))) pa_nil))) (pg_sub (pv 3) (pv 8) set_list))
  pss_nil) pss_nil)
  pss_nil))) pss_nil)
  pss_nil))
  pss_nil)))))
  (pss_cons (ps_ret (pe_lst (pa_cons pe_non (pa_cons (pv 3) pa_nil))))
  pss_nil)))))))), ?_⟩
  intro a as _
  change BJ K _ [some (.dat ((eT (eP3 eI eI eI)) a)), none, none, none, none, none, none, none, none, none, none] _ _ _ _ _
  refine fun g σ H D hA hm => x_asg ?_
  refine x_lcT ?_
  refine (ev_var rfl) _ _ _ _ _ hA fun v H hA => ?_
  refine wk_tup (xs := a) (e := (eP3 eI eI eI)) hA (f_lcW (e := (eP3 eI eI eI)) (enc := eI) (js := [10]) (ps := fun b1 => [(eP3 eI eI eI) b1]) (fun (s2 : Unit) => [some (.dat ((eT (eP3 eI eI eI)) a)), none, none, none, none, none, none, none, none, none, none]) (()) (fun b => tj_name) (by decide) (hnl fun s => rfl) (hnl fun s => rfl) (by decide) (lj_fwd fun s2 b1 g σ τ H Q Qn hA hm => ?_) hm (fun r3 v H hA hm => ?_))
  ·
    replace hA : At K g [some (.dat ((eT (eP3 eI eI eI)) a)), none, none, none, none, none, none, none, none, none, some (.dat ((eP3 eI eI eI) b1))] _ _ _ := hA
    refine x_yes ?_
    refine ev_int _ _ _ _ _ hA fun v H hA => ?_
    exact hm v H hA
  ·
    replace hA : At K g [some (.dat ((eT (eP3 eI eI eI)) a)), none, none, none, none, none, none, none, none, none, none] _ _ _ := hA
    refine f_setgo hA (fun j z => nomatch z) rfl hm ?_
    change BJ K _ [some (.dat ((eT (eP3 eI eI eI)) a)), some (.own none (.lst (List.map eI r3.2))), none, none, none, none, none, none, none, none, none] _ _ _ _ _
    refine fun g σ H D hA hm => x_asg ?_
    refine x_lcT ?_
    refine (ev_var rfl) _ _ _ _ _ hA fun v H hA => ?_
    refine wk_tup (xs := a) (e := (eP3 eI eI eI)) hA (f_lcW (e := (eP3 eI eI eI)) (enc := eI) (js := [10]) (ps := fun b4 => [(eP3 eI eI eI) b4]) (fun (s5 : Unit) => [some (.dat ((eT (eP3 eI eI eI)) a)), some (.own none (.lst (List.map eI r3.2))), none, none, none, none, none, none, none, none, none]) (()) (fun b => tj_name) (by decide) (hnl fun s => rfl) (hnl fun s => rfl) (by decide) (lj_fwd fun s5 b4 g σ τ H Q Qn hA hm => ?_) hm (fun r6 v H hA hm => ?_))
    ·
      replace hA : At K g [some (.dat ((eT (eP3 eI eI eI)) a)), some (.own none (.lst (List.map eI r3.2))), none, none, none, none, none, none, none, none, some (.dat ((eP3 eI eI eI) b4))] _ _ _ := hA
      refine x_yes ?_
      refine ev_int _ _ _ _ _ hA fun v H hA => ?_
      exact hm v H hA
    ·
      replace hA : At K g [some (.dat ((eT (eP3 eI eI eI)) a)), some (.own none (.lst (List.map eI r3.2))), none, none, none, none, none, none, none, none, none] _ _ _ := hA
      refine f_setgo hA (fun j z => nomatch z) rfl hm ?_
      change BJ K _ [some (.dat ((eT (eP3 eI eI eI)) a)), some (.own none (.lst (List.map eI r3.2))), some (.own none (.lst (List.map eI r6.2))), none, none, none, none, none, none, none, none] _ _ _ _ _
      refine fun g σ H D hA hm => x_asg ?_
      refine x_lcT ?_
      refine (ev_var rfl) _ _ _ _ _ hA fun v H hA => ?_
      refine wk_tup (xs := a) (e := (eP3 eI eI eI)) hA (f_lcW (e := (eP3 eI eI eI)) (enc := eI) (js := [10]) (ps := fun b7 => [(eP3 eI eI eI) b7]) (fun (s8 : Unit) => [some (.dat ((eT (eP3 eI eI eI)) a)), some (.own none (.lst (List.map eI r3.2))), some (.own none (.lst (List.map eI r6.2))), none, none, none, none, none, none, none, none]) (()) (fun b => tj_name) (by decide) (hnl fun s => rfl) (hnl fun s => rfl) (by decide) (lj_fwd fun s8 b7 g σ τ H Q Qn hA hm => ?_) hm (fun r9 v H hA hm => ?_))
      ·
        replace hA : At K g [some (.dat ((eT (eP3 eI eI eI)) a)), some (.own none (.lst (List.map eI r3.2))), some (.own none (.lst (List.map eI r6.2))), none, none, none, none, none, none, none, some (.dat ((eP3 eI eI eI) b7))] _ _ _ := hA
        refine x_yes ?_
        refine ev_int _ _ _ _ _ hA fun v H hA => ?_
        exact hm v H hA
      ·
        replace hA : At K g [some (.dat ((eT (eP3 eI eI eI)) a)), some (.own none (.lst (List.map eI r3.2))), some (.own none (.lst (List.map eI r6.2))), none, none, none, none, none, none, none, none] _ _ _ := hA
        refine f_setgo hA (fun j z => nomatch z) rfl hm ?_
        change BJ K _ [some (.dat ((eT (eP3 eI eI eI)) a)), some (.own none (.lst (List.map eI r3.2))), some (.own none (.lst (List.map eI r6.2))), some (.own none (.lst (List.map eI r9.2))), none, none, none, none, none, none, none] _ _ _ _ _
        refine fun g σ H D hA hm => x_asg ?_
        refine x_call1 ?_
        refine (ev_var rfl) _ _ _ _ _ hA fun v H hA => ?_
        refine f_call [.d ((eT (eP3 eI eI eI)) a)] a (fun r => []) hA rfl rfl True.intro (fun as h => match as, h with | [], _ => rfl) (fun _ => rfl) (fun r as h => match as, h with | [], _ => rfl) (fun r j z => nomatch z) .nil (hm.bindR.imp (fun r10 hm v H hA => ?_) fun _ q => q)
        refine f_setgo hA (fun j z => nomatch z) rfl hm ?_
        change BJ K _ [some (.dat ((eT (eP3 eI eI eI)) a)), some (.own none (.lst (List.map eI r3.2))), some (.own none (.lst (List.map eI r6.2))), some (.own none (.lst (List.map eI r9.2))), some (.dat (eI r10)), none, none, none, none, none, none] _ _ _ _ _
        refine fun g σ H D hA hm => x_asg ?_
        refine (ev_lst [eI (-(1 : Int))] (ea_cons (ev_un ev_int o1_neg) ea_nil)) _ _ _ _ _ hA fun v H hA => ?_
        replace hA := hA.frz
        refine f_setlt (e := [(-(1 : Int))]) (fun t => .dat ((eL eI) t)) hA (fun t j z => nomatch z) rfl hm (fun kept_11 => ?_)
        change BJ K _ [some (.dat ((eT (eP3 eI eI eI)) a)), some (.own none (.lst (List.map eI r3.2))), some (.own none (.lst (List.map eI r6.2))), some (.own none (.lst (List.map eI r9.2))), some (.dat (eI r10)), some (.dat ((eL eI) kept_11)), none, none, none, none, none] _ _ _ _ _
        refine fun g σ H D hA hm => x_asg ?_
        refine (ev_un ev_int o1_neg) _ _ _ _ _ hA fun v H hA => ?_
        refine f_setlt (e := (-(1 : Int))) (fun t => .dat (eI t)) hA (fun t j z => nomatch z) rfl hm (fun still_12 => ?_)
        change BJ K _ [some (.dat ((eT (eP3 eI eI eI)) a)), some (.own none (.lst (List.map eI r3.2))), some (.own none (.lst (List.map eI r6.2))), some (.own none (.lst (List.map eI r9.2))), some (.dat (eI r10)), some (.dat ((eL eI) kept_11)), some (.dat (eI still_12)), none, none, none, none] _ _ _ _ _
        refine fun g σ H D hA hm => ?_
        refine x_forR1 ?_
        refine ev_int _ _ _ _ _ hA fun v H hA => ?_
        refine f_rng1 (b := (400 : Int)) hA hm fun hm => f_for (e := eI) (fun (s14 : ((List Int) × (List Int) × (List Int) × (List Int) × Int)) => [some (.dat ((eT (eP3 eI eI eI)) a)), some (.own none (.lst (List.map eI s14.1))), some (.own none (.lst (List.map eI s14.2.1))), some (.own none (.lst (List.map eI s14.2.2.1))), some (.dat (eI r10)), some (.dat ((eL eI) s14.2.2.2.1)), some (.dat (eI s14.2.2.2.2)), none, none, none, none]) (s0 := (r3.2, r6.2, r9.2, kept_11, still_12)) (.s (.s (.s (.s (.s (.s (.s (.d (.d (.d (.d .nil))))))))))) hm (hb_of (e := eI) (js := [7]) (ps := fun b15 => [eI b15]) (fun b => tj_name) (hjl (n := 11) (fun s => rfl) (by decide)) (fun s14 b15 => ?_)) (fun s14 => ?_)
        ·
          change BJ K _ [some (.dat ((eT (eP3 eI eI eI)) a)), some (.own none (.lst (List.map eI s14.1))), some (.own none (.lst (List.map eI s14.2.1))), some (.own none (.lst (List.map eI s14.2.2.1))), some (.dat (eI r10)), some (.dat ((eL eI) s14.2.2.2.1)), some (.dat (eI s14.2.2.2.2)), some (.dat (eI b15)), none, none, none] _ _ _ _ _
          refine bj_seq (n1 := fun (s16 : ((List Int) × Int)) => [some (.dat ((eT (eP3 eI eI eI)) a)), some (.own none (.lst (List.map eI s14.1))), some (.own none (.lst (List.map eI s14.2.1))), some (.own none (.lst (List.map eI s14.2.2.1))), some (.dat (eI r10)), some (.dat ((eL eI) s16.1)), some (.dat (eI s16.2)), some (.dat (eI b15)), none, none, none]) ?_ (fun s16 => ?_)
          ·
            refine fun g σ H D hA hm => x_ifB ?_
            refine x_test ?_
            refine x_op ?_
            refine x_op ?_
            refine (ev_cb1 (ev_var rfl) o1_int) _ _ _ _ _ hA fun v H hA => ?_
            refine (ev_var rfl) _ _ _ _ _ hA fun v H hA => ?_
            refine f_o2m o2_mod hA hm fun t17 v H hA hm => ?_
            refine ev_int _ _ _ _ _ hA fun v H hA => ?_
            refine o2_eqI _ _ _ _ _ _ _ hA fun v H hA => ?_
            refine f_tst (P := fun c H1 => _) hA fun hA => ?_
            refine f_pick hm (fun hm => ?_) (fun hm => ?_)
            ·
              refine bj_go hA hm ?_
              change BJ K _ [some (.dat ((eT (eP3 eI eI eI)) a)), some (.own none (.lst (List.map eI s14.1))), some (.own none (.lst (List.map eI s14.2.1))), some (.own none (.lst (List.map eI s14.2.2.1))), some (.dat (eI r10)), some (.dat ((eL eI) s14.2.2.2.1)), some (.dat (eI s14.2.2.2.2)), some (.dat (eI b15)), none, none, none] _ _ _ _ _
              refine bj_ifL (evb_test (ev_op (ev_var rfl) ev_int o2_c0)) ?_ ?_
              ·
                refine bj_assoc ?_
                refine bj_frz (i := 3) rfl ?_
                change BJ K _ [some (.dat ((eT (eP3 eI eI eI)) a)), some (.own none (.lst (List.map eI s14.1))), some (.own none (.lst (List.map eI s14.2.1))), some (.dat ((eL eI) s14.2.2.1)), some (.dat (eI r10)), some (.dat ((eL eI) s14.2.2.2.1)), some (.dat (eI s14.2.2.2.2)), some (.dat (eI b15)), none, none, none] _ _ _ _ _
                refine fun g σ H D hA hm => x_ret ?_
                refine (ev_lst [(eO (eL eI)) none, (eO (eL eI)) (some s14.2.2.1)] (ea_cons ev_non (ea_cons (ev_var rfl) ea_nil))) _ _ _ _ _ hA fun v H hA => ?_
                replace hA := hA.frz
                replace hA := hA.box (Bx.hd (x := [none, (some s14.2.2.1)]) (bx_l (bx_o (bx_l bx_i))))
                exact hm v H _ (hA.weak1 (.d .nil) fun j z => nomatch z)
              ·
                refine bj_pass ?_
                refine bj_seq (n1 := fun (s18 : Int) => [some (.dat ((eT (eP3 eI eI eI)) a)), some (.own none (.lst (List.map eI s14.1))), some (.own none (.lst (List.map eI s14.2.1))), some (.own none (.lst (List.map eI s14.2.2.1))), some (.dat (eI r10)), none, some (.dat (eI s18)), some (.dat (eI b15)), none, none, none]) ?_ (fun s18 => ?_)
                ·
                  refine bj_if (evb_test (ev_op (ev_var rfl) (ev_own rfl) (o2_eqD (x := (s14.2.2.2.1 : (List Int))) (y := (s14.1 : (List Int))) (.dat (bx_l bx_i)) (.lst bx_i (.als rfl)) (eq_l eq_i)))) ?_ ?_
                  ·
                    refine fun g σ H D hA hm => x_asg ?_
                    refine (ev_var rfl) _ _ _ _ _ hA fun v H hA => ?_
                    refine f_setgo hA (fun j z => nomatch z) rfl hm ?_
                    change BJ K _ [some (.dat ((eT (eP3 eI eI eI)) a)), some (.own none (.lst (List.map eI s14.1))), some (.own none (.lst (List.map eI s14.2.1))), some (.own none (.lst (List.map eI s14.2.2.1))), some (.dat (eI r10)), some (.dat ((eL eI) s14.2.2.2.1)), some (.dat (eI b15)), some (.dat (eI b15)), none, none, none] _ _ _ _ _
                    exact bj_nx (a := b15) (.s (.s (.s (.s (.s (.d (.s (.s (.d (.d (.d .nil)))))))))))
                  ·
                    exact bj_nx (a := s14.2.2.2.2) (.s (.s (.s (.s (.s (.d (.s (.s (.d (.d (.d .nil)))))))))))
                ·
                  change BJ K _ [some (.dat ((eT (eP3 eI eI eI)) a)), some (.own none (.lst (List.map eI s14.1))), some (.own none (.lst (List.map eI s14.2.1))), some (.own none (.lst (List.map eI s14.2.2.1))), some (.dat (eI r10)), none, some (.dat (eI s18)), some (.dat (eI b15)), none, none, none] _ _ _ _ _
                  refine fun g σ H D hA hm => x_asg ?_
                  refine (ev_cb1 (ev_own rfl) (o1_list (.l (.als rfl)))) _ _ _ _ _ hA fun v H hA => ?_
                  replace hA := hA.frz
                  refine f_setgo hA (fun j z => nomatch z) rfl hm ?_
                  change BJ K _ [some (.dat ((eT (eP3 eI eI eI)) a)), some (.own none (.lst (List.map eI s14.1))), some (.own none (.lst (List.map eI s14.2.1))), some (.own none (.lst (List.map eI s14.2.2.1))), some (.dat (eI r10)), some (.dat ((eL eI) s14.1)), some (.dat (eI s18)), some (.dat (eI b15)), none, none, none] _ _ _ _ _
                  exact bj_nx (a := (s14.1, s18)) (.s (.s (.s (.s (.s (.s (.s (.s (.d (.d (.d .nil)))))))))))
            ·
              refine bj_go hA hm ?_
              change BJ K _ [some (.dat ((eT (eP3 eI eI eI)) a)), some (.own none (.lst (List.map eI s14.1))), some (.own none (.lst (List.map eI s14.2.1))), some (.own none (.lst (List.map eI s14.2.2.1))), some (.dat (eI r10)), some (.dat ((eL eI) s14.2.2.2.1)), some (.dat (eI s14.2.2.2.2)), some (.dat (eI b15)), none, none, none] _ _ _ _ _
              exact bj_nx (a := (s14.2.2.2.1, s14.2.2.2.2)) (.s (.s (.s (.s (.s (.s (.s (.s (.d (.d (.d .nil)))))))))))
          ·
            change BJ K _ [some (.dat ((eT (eP3 eI eI eI)) a)), some (.own none (.lst (List.map eI s14.1))), some (.own none (.lst (List.map eI s14.2.1))), some (.own none (.lst (List.map eI s14.2.2.1))), some (.dat (eI r10)), some (.dat ((eL eI) s16.1)), some (.dat (eI s16.2)), some (.dat (eI b15)), none, none, none] _ _ _ _ _
            refine fun g σ H D hA hm => ?_
            refine x_forR1 ?_
            refine (ev_cb1 (ev_var rfl) (o1_lenT a (eP3 eI eI eI) .t)) _ _ _ _ _ hA fun v H hA => ?_
            refine f_rng1 (b := ((a).length : Int)) hA hm fun hm => f_for (e := eI) (fun (s20 : ((List Int) × (List Int))) => [some (.dat ((eT (eP3 eI eI eI)) a)), some (.own none (.lst (List.map eI s20.1))), some (.own none (.lst (List.map eI s20.2))), some (.own none (.lst (List.map eI s14.2.2.1))), some (.dat (eI r10)), some (.dat ((eL eI) s16.1)), some (.dat (eI s16.2)), some (.dat (eI b15)), none, none, none]) (s0 := (s14.1, s14.2.1)) (.s (.s (.s (.s (.s (.s (.s (.s (.d (.d (.d .nil))))))))))) hm (hb_of (e := eI) (js := [8]) (ps := fun b21 => [eI b21]) (fun b => tj_name) (hjl (n := 11) (fun s => rfl) (by decide)) (fun s20 b21 => ?_)) (fun s20 => ?_)
            ·
              change BJ K _ [some (.dat ((eT (eP3 eI eI eI)) a)), some (.own none (.lst (List.map eI s20.1))), some (.own none (.lst (List.map eI s20.2))), some (.own none (.lst (List.map eI s14.2.2.1))), some (.dat (eI r10)), some (.dat ((eL eI) s16.1)), some (.dat (eI s16.2)), some (.dat (eI b15)), some (.dat (eI b21)), none, none] _ _ _ _ _
              refine fun g σ H D hA hm => x_ifS ?_
              refine x_test ?_
              refine x_op ?_
              refine x_op ?_
              refine (ev_cb1 (ev_var rfl) o1_int) _ _ _ _ _ hA fun v H hA => ?_
              refine x_op ?_
              refine x_op ?_
              refine (ev_var rfl) _ _ _ _ _ hA fun v H hA => ?_
              refine (ev_var rfl) _ _ _ _ _ hA fun v H hA => ?_
              refine f_o2m (o2_idxT (xs := a) (e := (eP3 eI eI eI))) hA hm fun t22 v H hA hm => ?_
              refine ev_int _ _ _ _ _ hA fun v H hA => ?_
              refine (o2_ixK (p := eI t22.2.1) rfl) _ _ _ _ _ _ _ hA fun v H hA => ?_
              refine f_o2m o2_mod hA hm fun t23 v H hA hm => ?_
              refine x_op ?_
              refine x_op ?_
              refine (ev_var rfl) _ _ _ _ _ hA fun v H hA => ?_
              refine (ev_var rfl) _ _ _ _ _ hA fun v H hA => ?_
              refine f_o2m (o2_idxT (xs := a) (e := (eP3 eI eI eI))) hA hm fun t24 v H hA hm => ?_
              refine ev_int _ _ _ _ _ hA fun v H hA => ?_
              refine (o2_ixK (p := eI t24.2.2) rfl) _ _ _ _ _ _ _ hA fun v H hA => ?_
              refine o2_eqI _ _ _ _ _ _ _ hA fun v H hA => ?_
              refine f_tst (P := fun c H1 => _) hA fun hA => ?_
              refine f_ifS hm (fun hm => ?_) (fun hm => ?_)
              ·
                refine bj_go hA hm ?_
                change BJ K _ [some (.dat ((eT (eP3 eI eI eI)) a)), some (.own none (.lst (List.map eI s20.1))), some (.own none (.lst (List.map eI s20.2))), some (.own none (.lst (List.map eI s14.2.2.1))), some (.dat (eI r10)), some (.dat ((eL eI) s16.1)), some (.dat (eI s16.2)), some (.dat (eI b15)), some (.dat (eI b21)), none, none] _ _ _ _ _
                refine bj_assoc ?_
                refine fun g σ H D hA hm => x_ifS ?_
                refine x_test ?_
                refine x_op ?_
                refine x_op ?_
                refine (ev_own rfl) _ _ _ _ _ hA fun v H hA => ?_
                refine (ev_var rfl) _ _ _ _ _ hA fun v H hA => ?_
                refine f_o2m (o2_idxL (xs := s20.1) (e := eI) (.als rfl)) hA hm fun t25 v H hA hm => ?_
                refine ev_int _ _ _ _ _ hA fun v H hA => ?_
                refine o2_c0 _ _ _ _ _ _ _ hA fun v H hA => ?_
                refine f_tst (P := fun c H1 => _) hA fun hA => ?_
                refine f_ifS hm (fun hm => ?_) (fun hm => ?_)
                ·
                  refine bj_go hA hm ?_
                  change BJ K _ [some (.dat ((eT (eP3 eI eI eI)) a)), some (.own none (.lst (List.map eI s20.1))), some (.own none (.lst (List.map eI s20.2))), some (.own none (.lst (List.map eI s14.2.2.1))), some (.dat (eI r10)), some (.dat ((eL eI) s16.1)), some (.dat (eI s16.2)), some (.dat (eI b15)), some (.dat (eI b21)), none, none] _ _ _ _ _
                  refine bj_assoc ?_
                  refine bj_frz (i := 3) rfl ?_
                  change BJ K _ [some (.dat ((eT (eP3 eI eI eI)) a)), some (.own none (.lst (List.map eI s20.1))), some (.own none (.lst (List.map eI s20.2))), some (.dat ((eL eI) s14.2.2.1)), some (.dat (eI r10)), some (.dat ((eL eI) s16.1)), some (.dat (eI s16.2)), some (.dat (eI b15)), some (.dat (eI b21)), none, none] _ _ _ _ _
                  refine fun g σ H D hA hm => x_ret ?_
                  refine (ev_lst [eD ((dP2 PyData.int PyData.int) (b21, b15)), eD ((dL PyData.int) s14.2.2.1)] (ea_cons (ev_box (bx_p2 bx_i bx_i) (ev_tup [eI b21, eI b15] (ea_cons (ev_var rfl) (ea_cons (ev_var rfl) ea_nil)))) (ea_cons (ev_box (bx_l bx_i) (ev_var rfl)) ea_nil))) _ _ _ _ _ hA fun v H hA => ?_
                  replace hA := hA.frz
                  replace hA := hA.box (Bx.hd (x := [((dP2 PyData.int PyData.int) (b21, b15)), ((dL PyData.int) s14.2.2.1)]) (bx_l bx_d))
                  exact hm v H _ (hA.weak1 (.d .nil) fun j z => nomatch z)
                ·
                  refine bj_go hA hm ?_
                  change BJ K _ [some (.dat ((eT (eP3 eI eI eI)) a)), some (.own none (.lst (List.map eI s20.1))), some (.own none (.lst (List.map eI s20.2))), some (.own none (.lst (List.map eI s14.2.2.1))), some (.dat (eI r10)), some (.dat ((eL eI) s16.1)), some (.dat (eI s16.2)), some (.dat (eI b15)), some (.dat (eI b21)), none, none] _ _ _ _ _
                  refine bj_pass ?_
                  refine bj_assoc ?_
                  refine fun g σ H D hA hm => x_asg ?_
                  refine x_op ?_
                  refine x_op ?_
                  refine (ev_var rfl) _ _ _ _ _ hA fun v H hA => ?_
                  refine (ev_var rfl) _ _ _ _ _ hA fun v H hA => ?_
                  refine f_o2m (o2_idxT (xs := a) (e := (eP3 eI eI eI))) hA hm fun t26 v H hA hm => ?_
                  refine ev_int _ _ _ _ _ hA fun v H hA => ?_
                  refine (o2_ixK (p := eI t26.1) rfl) _ _ _ _ _ _ _ hA fun v H hA => ?_
                  refine x_gsub ?_
                  refine (ev_own rfl) _ _ _ _ _ hA fun v H hA => ?_
                  refine (ev_var rfl) _ _ _ _ _ hA fun v H hA => ?_
                  refine f_setm (xs := s20.1) (e := eI) rfl hA hm fun ys27 H hA hm => ?_
                  refine bj_go hA hm ?_
                  change BJ K _ [some (.dat ((eT (eP3 eI eI eI)) a)), some (.own none (.lst (List.map eI ys27))), some (.own none (.lst (List.map eI s20.2))), some (.own none (.lst (List.map eI s14.2.2.1))), some (.dat (eI r10)), some (.dat ((eL eI) s16.1)), some (.dat (eI s16.2)), some (.dat (eI b15)), some (.dat (eI b21)), none, none] _ _ _ _ _
                  refine bj_assoc ?_
                  refine fun g σ H D hA hm => x_asg ?_
                  refine (ev_var rfl) _ _ _ _ _ hA fun v H hA => ?_
                  refine x_gsub ?_
                  refine (ev_own rfl) _ _ _ _ _ hA fun v H hA => ?_
                  refine (ev_var rfl) _ _ _ _ _ hA fun v H hA => ?_
                  refine f_setm (xs := s20.2) (e := eI) rfl hA hm fun ys28 H hA hm => ?_
                  refine bj_go hA hm ?_
                  change BJ K _ [some (.dat ((eT (eP3 eI eI eI)) a)), some (.own none (.lst (List.map eI ys27))), some (.own none (.lst (List.map eI ys28))), some (.own none (.lst (List.map eI s14.2.2.1))), some (.dat (eI r10)), some (.dat ((eL eI) s16.1)), some (.dat (eI s16.2)), some (.dat (eI b15)), some (.dat (eI b21)), none, none] _ _ _ _ _
                  refine bj_pass ?_
                  exact bj_nx (a := (ys27, ys28)) (.s (.s (.s (.s (.s (.s (.s (.s (.d (.d (.d .nil)))))))))))
              ·
                refine bj_go hA hm ?_
                change BJ K _ [some (.dat ((eT (eP3 eI eI eI)) a)), some (.own none (.lst (List.map eI s20.1))), some (.own none (.lst (List.map eI s20.2))), some (.own none (.lst (List.map eI s14.2.2.1))), some (.dat (eI r10)), some (.dat ((eL eI) s16.1)), some (.dat (eI s16.2)), some (.dat (eI b15)), some (.dat (eI b21)), none, none] _ _ _ _ _
                refine bj_pass ?_
                exact bj_nx (a := (s20.1, s20.2)) (.s (.s (.s (.s (.s (.s (.s (.s (.d (.d (.d .nil)))))))))))
            ·
              change BJ K _ [some (.dat ((eT (eP3 eI eI eI)) a)), some (.own none (.lst (List.map eI s20.1))), some (.own none (.lst (List.map eI s20.2))), some (.own none (.lst (List.map eI s14.2.2.1))), some (.dat (eI r10)), some (.dat ((eL eI) s16.1)), some (.dat (eI s16.2)), some (.dat (eI b15)), none, none, none] _ _ _ _ _
              refine fun g σ H D hA hm => x_asg ?_
              refine ev_bl _ _ _ _ _ hA fun v H hA => ?_
              refine f_setgo hA (fun j z => nomatch z) rfl hm ?_
              change BJ K _ [some (.dat ((eT (eP3 eI eI eI)) a)), some (.own none (.lst (List.map eI s20.1))), some (.own none (.lst (List.map eI s20.2))), some (.own none (.lst (List.map eI s14.2.2.1))), some (.dat (eI r10)), some (.dat ((eL eI) s16.1)), some (.dat (eI s16.2)), some (.dat (eI b15)), none, some (.dat (eB false)), none] _ _ _ _ _
              refine fun g σ H D hA hm => ?_
              refine x_forR1 ?_
              refine (ev_cb1 (ev_var rfl) (o1_lenT a (eP3 eI eI eI) .t)) _ _ _ _ _ hA fun v H hA => ?_
              refine f_rng1 (b := ((a).length : Int)) hA hm fun hm => f_for (e := eI) (fun (s30 : ((List Int) × (List Int) × Bool)) => [some (.dat ((eT (eP3 eI eI eI)) a)), some (.own none (.lst (List.map eI s30.1))), some (.own none (.lst (List.map eI s20.2))), some (.own none (.lst (List.map eI s30.2.1))), some (.dat (eI r10)), some (.dat ((eL eI) s16.1)), some (.dat (eI s16.2)), some (.dat (eI b15)), none, some (.dat (eB s30.2.2)), none]) (s0 := (s20.1, s14.2.2.1, false)) (.s (.s (.s (.s (.s (.s (.s (.s (.d (.s (.d .nil))))))))))) hm (hb_of (e := eI) (js := [8]) (ps := fun b31 => [eI b31]) (fun b => tj_name) (hjl (n := 11) (fun s => rfl) (by decide)) (fun s30 b31 => ?_)) (fun s30 => ?_)
              ·
                change BJ K _ [some (.dat ((eT (eP3 eI eI eI)) a)), some (.own none (.lst (List.map eI s30.1))), some (.own none (.lst (List.map eI s20.2))), some (.own none (.lst (List.map eI s30.2.1))), some (.dat (eI r10)), some (.dat ((eL eI) s16.1)), some (.dat (eI s16.2)), some (.dat (eI b15)), some (.dat (eI b31)), some (.dat (eB s30.2.2)), none] _ _ _ _ _
                refine fun g σ H D hA hm => x_ifS ?_
                refine f_joinT (fun (s : Bool) => [some (.dat ((eT (eP3 eI eI eI)) a)), some (.own none (.lst (List.map eI s30.1))), some (.own none (.lst (List.map eI s20.2))), some (.own none (.lst (List.map eI s30.2.1))), some (.dat (eI r10)), some (.dat ((eL eI) s16.1)), some (.dat (eI s16.2)), some (.dat (eI b15)), some (.dat (eI b31)), some (.dat (eB s30.2.2)), none]) (fun s => s) hA hm (fun hm => ?_) (fun j32 H hA hm => ?_)
                ·
                  refine x_andT ?_
                  refine x_test ?_
                  refine x_op ?_
                  refine x_op ?_
                  refine (ev_own rfl) _ _ _ _ _ hA fun v H hA => ?_
                  refine (ev_var rfl) _ _ _ _ _ hA fun v H hA => ?_
                  refine f_o2m (o2_idxL (xs := s30.1) (e := eI) (.als rfl)) hA hm fun t33 v H hA hm => ?_
                  refine ev_int _ _ _ _ _ hA fun v H hA => ?_
                  refine o2_c0 _ _ _ _ _ _ _ hA fun v H hA => ?_
                  refine f_tst (P := fun c H1 => _) hA fun hA => ?_
                  refine f_pick hm (fun hm => ?_) (fun hm => ?_)
                  ·
                    refine (evb_not (evb_B (ev_var rfl))) _ _ _ _ _ hA fun H hA => ?_
                    exact hm H hA
                  ·
                    exact hm H hA
                ·
                  replace hA : At K g [some (.dat ((eT (eP3 eI eI eI)) a)), some (.own none (.lst (List.map eI s30.1))), some (.own none (.lst (List.map eI s20.2))), some (.own none (.lst (List.map eI s30.2.1))), some (.dat (eI r10)), some (.dat ((eL eI) s16.1)), some (.dat (eI s16.2)), some (.dat (eI b15)), some (.dat (eI b31)), some (.dat (eB s30.2.2)), none] _ _ _ := hA
                  refine f_ifS hm (fun hm => ?_) (fun hm => ?_)
                  ·
                    refine bj_go hA hm ?_
                    change BJ K _ [some (.dat ((eT (eP3 eI eI eI)) a)), some (.own none (.lst (List.map eI s30.1))), some (.own none (.lst (List.map eI s20.2))), some (.own none (.lst (List.map eI s30.2.1))), some (.dat (eI r10)), some (.dat ((eL eI) s16.1)), some (.dat (eI s16.2)), some (.dat (eI b15)), some (.dat (eI b31)), some (.dat (eB s30.2.2)), none] _ _ _ _ _
                    refine bj_assoc ?_
                    refine fun g σ H D hA hm => x_asg ?_
                    refine ev_bl _ _ _ _ _ hA fun v H hA => ?_
                    refine f_setgo hA (fun j z => nomatch z) rfl hm ?_
                    change BJ K _ [some (.dat ((eT (eP3 eI eI eI)) a)), some (.own none (.lst (List.map eI s30.1))), some (.own none (.lst (List.map eI s20.2))), some (.own none (.lst (List.map eI s30.2.1))), some (.dat (eI r10)), some (.dat ((eL eI) s16.1)), some (.dat (eI s16.2)), some (.dat (eI b15)), some (.dat (eI b31)), some (.dat (eB true)), none] _ _ _ _ _
                    refine bj_assoc ?_
                    refine fun g σ H D hA hm => x_asg ?_
                    refine x_op ?_
                    refine x_op ?_
                    refine (ev_own rfl) _ _ _ _ _ hA fun v H hA => ?_
                    refine (ev_var rfl) _ _ _ _ _ hA fun v H hA => ?_
                    refine f_o2m (o2_idxL (xs := s30.1) (e := eI) (.als rfl)) hA hm fun t34 v H hA hm => ?_
                    refine ev_int _ _ _ _ _ hA fun v H hA => ?_
                    refine o2_i0 _ _ _ _ _ _ _ hA fun v H hA => ?_
                    refine x_gsub ?_
                    refine (ev_own rfl) _ _ _ _ _ hA fun v H hA => ?_
                    refine (ev_var rfl) _ _ _ _ _ hA fun v H hA => ?_
                    refine f_setm (xs := s30.1) (e := eI) rfl hA hm fun ys35 H hA hm => ?_
                    refine bj_go hA hm ?_
                    change BJ K _ [some (.dat ((eT (eP3 eI eI eI)) a)), some (.own none (.lst (List.map eI ys35))), some (.own none (.lst (List.map eI s20.2))), some (.own none (.lst (List.map eI s30.2.1))), some (.dat (eI r10)), some (.dat ((eL eI) s16.1)), some (.dat (eI s16.2)), some (.dat (eI b15)), some (.dat (eI b31)), some (.dat (eB true)), none] _ _ _ _ _
                    refine bj_assoc ?_
                    refine fun g σ H D hA hm => x_ifS ?_
                    refine x_test ?_
                    refine x_op ?_
                    refine x_op ?_
                    refine (ev_own rfl) _ _ _ _ _ hA fun v H hA => ?_
                    refine (ev_var rfl) _ _ _ _ _ hA fun v H hA => ?_
                    refine f_o2m (o2_idxL (xs := ys35) (e := eI) (.als rfl)) hA hm fun t36 v H hA hm => ?_
                    refine ev_int _ _ _ _ _ hA fun v H hA => ?_
                    refine o2_eqI _ _ _ _ _ _ _ hA fun v H hA => ?_
                    refine f_tst (P := fun c H1 => _) hA fun hA => ?_
                    refine f_ifS hm (fun hm => ?_) (fun hm => ?_)
                    ·
                      refine bj_go hA hm ?_
                      change BJ K _ [some (.dat ((eT (eP3 eI eI eI)) a)), some (.own none (.lst (List.map eI ys35))), some (.own none (.lst (List.map eI s20.2))), some (.own none (.lst (List.map eI s30.2.1))), some (.dat (eI r10)), some (.dat ((eL eI) s16.1)), some (.dat (eI s16.2)), some (.dat (eI b15)), some (.dat (eI b31)), some (.dat (eB true)), none] _ _ _ _ _
                      refine bj_assoc ?_
                      refine fun g σ H D hA hm => x_asg ?_
                      refine x_cb2 ?_
                      refine x_op ?_
                      refine (ev_own rfl) _ _ _ _ _ hA fun v H hA => ?_
                      refine (ev_var rfl) _ _ _ _ _ hA fun v H hA => ?_
                      refine f_o2m (o2_idxL (xs := s30.2.1) (e := eI) (.als rfl)) hA hm fun t37 v H hA hm => ?_
                      refine x_op ?_
                      refine (ev_op (ev_var rfl) ev_int o2_i0) _ _ _ _ _ hA fun v H hA => ?_
                      refine x_op ?_
                      refine (ev_own rfl) _ _ _ _ _ hA fun v H hA => ?_
                      refine (ev_var rfl) _ _ _ _ _ hA fun v H hA => ?_
                      refine f_o2m (o2_idxL (xs := s20.2) (e := eI) (.als rfl)) hA hm fun t38 v H hA hm => ?_
                      refine o2_i0 _ _ _ _ _ _ _ hA fun v H hA => ?_
                      refine o2_max _ _ _ _ _ _ _ hA fun v H hA => ?_
                      refine x_gsub ?_
                      refine (ev_own rfl) _ _ _ _ _ hA fun v H hA => ?_
                      refine (ev_var rfl) _ _ _ _ _ hA fun v H hA => ?_
                      refine f_setm (xs := s30.2.1) (e := eI) rfl hA hm fun ys39 H hA hm => ?_
                      refine bj_go hA hm ?_
                      change BJ K _ [some (.dat ((eT (eP3 eI eI eI)) a)), some (.own none (.lst (List.map eI ys35))), some (.own none (.lst (List.map eI s20.2))), some (.own none (.lst (List.map eI ys39))), some (.dat (eI r10)), some (.dat ((eL eI) s16.1)), some (.dat (eI s16.2)), some (.dat (eI b15)), some (.dat (eI b31)), some (.dat (eB true)), none] _ _ _ _ _
                      refine bj_pass ?_
                      refine bj_pass ?_
                      exact bj_nx (a := (ys35, ys39, true)) (.s (.s (.s (.s (.s (.s (.s (.s (.d (.s (.d .nil)))))))))))
                    ·
                      refine bj_go hA hm ?_
                      change BJ K _ [some (.dat ((eT (eP3 eI eI eI)) a)), some (.own none (.lst (List.map eI ys35))), some (.own none (.lst (List.map eI s20.2))), some (.own none (.lst (List.map eI s30.2.1))), some (.dat (eI r10)), some (.dat ((eL eI) s16.1)), some (.dat (eI s16.2)), some (.dat (eI b15)), some (.dat (eI b31)), some (.dat (eB true)), none] _ _ _ _ _
                      refine bj_pass ?_
                      refine bj_pass ?_
                      exact bj_nx (a := (ys35, s30.2.1, true)) (.s (.s (.s (.s (.s (.s (.s (.s (.d (.s (.d .nil)))))))))))
                  ·
                    refine bj_go hA hm ?_
                    change BJ K _ [some (.dat ((eT (eP3 eI eI eI)) a)), some (.own none (.lst (List.map eI s30.1))), some (.own none (.lst (List.map eI s20.2))), some (.own none (.lst (List.map eI s30.2.1))), some (.dat (eI r10)), some (.dat ((eL eI) s16.1)), some (.dat (eI s16.2)), some (.dat (eI b15)), some (.dat (eI b31)), some (.dat (eB s30.2.2)), none] _ _ _ _ _
                    refine bj_pass ?_
                    exact bj_nx (a := (s30.1, s30.2.1, s30.2.2)) (.s (.s (.s (.s (.s (.s (.s (.s (.d (.s (.d .nil)))))))))))
              ·
                change BJ K _ [some (.dat ((eT (eP3 eI eI eI)) a)), some (.own none (.lst (List.map eI s30.1))), some (.own none (.lst (List.map eI s20.2))), some (.own none (.lst (List.map eI s30.2.1))), some (.dat (eI r10)), some (.dat ((eL eI) s16.1)), some (.dat (eI s16.2)), some (.dat (eI b15)), none, some (.dat (eB s30.2.2)), none] _ _ _ _ _
                exact bj_nx (a := (s30.1, s20.2, s30.2.1, s16.1, s16.2)) (.s (.s (.s (.s (.s (.s (.s (.d (.d (.d (.d .nil)))))))))))
        ·
          change BJ K _ [some (.dat ((eT (eP3 eI eI eI)) a)), some (.own none (.lst (List.map eI s14.1))), some (.own none (.lst (List.map eI s14.2.1))), some (.own none (.lst (List.map eI s14.2.2.1))), some (.dat (eI r10)), some (.dat ((eL eI) s14.2.2.2.1)), some (.dat (eI s14.2.2.2.2)), none, none, none, none] _ _ _ _ _
          refine bj_frz (i := 3) rfl ?_
          change BJ K _ [some (.dat ((eT (eP3 eI eI eI)) a)), some (.own none (.lst (List.map eI s14.1))), some (.own none (.lst (List.map eI s14.2.1))), some (.dat ((eL eI) s14.2.2.1)), some (.dat (eI r10)), some (.dat ((eL eI) s14.2.2.2.1)), some (.dat (eI s14.2.2.2.2)), none, none, none, none] _ _ _ _ _
          refine fun g σ H D hA hm => x_ret ?_
          refine (ev_lst [(eO (eL eI)) none, (eO (eL eI)) (some s14.2.2.1)] (ea_cons ev_non (ea_cons (ev_var rfl) ea_nil))) _ _ _ _ _ hA fun v H hA => ?_
          replace hA := hA.frz
          replace hA := hA.box (Bx.hd (x := [none, (some s14.2.2.1)]) (bx_l (bx_o (bx_l bx_i))))
          exact hm v H _ (hA.weak1 (.d .nil) fun j z => nomatch z)
theorem ok_law_offsets (T : Txt K mg Z) : FnOk P w K mg base (L2.CX P w) 1 Z.f_law_offsets Z.d_law_offsets ["jobs"] (Spec K Z.ec 1 pre_law_offsets f_law_offsets post_law_offsets ret_law_offsets) := by
  refine fn_ok T.d_law_offsets.F sc_law_offsets rfl m_law_offsets fun cdv A outer s H E hr => ?_
  refine ⟨_, (pss_cons (ps_set (i := 1) sc_law_offsets.nd rfl (Or.inl rfl) (pe_lst (pa_cons (pe_tup pa_nil) pa_nil)))
  (pss_cons (ps_for (passes_of rfl) rfl (pi_tup (pv 0)) (pg_name (i := 2) sc_law_offsets.nd rfl (Or.inl rfl)) (pss_cons (ps_set (i := 3) sc_law_offsets.nd rfl (Or.inl rfl) (pe_lst pa_nil))
  (pss_cons (ps_for (passes_of rfl) rfl (pi_list (pv 1)) (pg_name (i := 4) sc_law_offsets.nd rfl (Or.inl rfl)) (pss_cons (ps_for (passes_of rfl) rfl (pi_range1 (by rfl) T.z_range (pa_cons (pe_ix (r := rIxT K) ix_tup (pv 2) pe_int (fun _ _ => rfl)) pa_nil)) (pg_name (i := 5) sc_law_offsets.nd rfl (Or.inl rfl)) (pss_cons (ps_expr (pe_bm PySem.F.plainAttrs_list PySem.F.slot_list_append PySem.F.type_list_append mt_append (pv 3) (pa_cons (pe_op (r := rCatA K) op_catA (pv 4) (pe_tup (pa_cons (pv 5) pa_nil))) pa_nil)))
  pss_nil))
  pss_nil))
  (pss_cons (ps_set (i := 1) sc_law_offsets.nd rfl (Or.inl rfl) (pe_callTy (r := rList K) c_list (by rfl) T.z_list (by decide +kernel) (pa_cons (pv 3) pa_nil)))
  pss_nil))))
  (pss_cons (ps_ret (pv 1))
  pss_nil))), ?_⟩
  intro a as _
  change BJ K _ [some (.dat ((eT (eP3 eI eI eI)) a)), none, none, none, none, none] _ _ _ _ _
  refine fun g σ H D hA hm => x_asg ?_
  refine (ev_lst [(eT eI) ([])] (ea_cons (ev_tup [] ea_nil) ea_nil)) _ _ _ _ _ hA fun v H hA => ?_
  replace hA := hA.frz
  refine f_setlt (e := [[]]) (fun t => .dat ((eL (eT eI)) t)) hA (fun t j z => nomatch z) rfl hm (fun choices_1 => ?_)
  change BJ K _ [some (.dat ((eT (eP3 eI eI eI)) a)), some (.dat ((eL (eT eI)) choices_1)), none, none, none, none] _ _ _ _ _
  refine fun g σ H D hA hm => ?_
  refine x_forT ?_
  refine (ev_var rfl) _ _ _ _ _ hA fun v H hA => ?_
  refine wk_tup (xs := a) (e := (eP3 eI eI eI)) hA (f_for (e := (eP3 eI eI eI)) (fun (s2 : (List (List Int))) => [none, some (.dat ((eL (eT eI)) s2)), none, none, none, none]) (s0 := choices_1) (.d (.s (.d (.d (.d (.d .nil)))))) hm (hb_of (e := (eP3 eI eI eI)) (js := [2]) (ps := fun b3 => [(eP3 eI eI eI) b3]) (fun b => tj_name) (hjl (n := 6) (fun s => rfl) (by decide)) (fun s2 b3 => ?_)) (fun s2 => ?_))
  ·
    change BJ K _ [none, some (.dat ((eL (eT eI)) s2)), some (.dat ((eP3 eI eI eI) b3)), none, none, none] _ _ _ _ _
    refine fun g σ H D hA hm => x_asg ?_
    refine (ev_lst [] ea_nil) _ _ _ _ _ hA fun v H hA => ?_
    refine f_setlt (e := []) (fun t => .own none (.lst (List.map (eT eI) t))) hA (fun t j z => nomatch z) rfl hm (fun longer_4 => ?_)
    change BJ K _ [none, some (.dat ((eL (eT eI)) s2)), some (.dat ((eP3 eI eI eI) b3)), some (.own none (.lst (List.map (eT eI) longer_4))), none, none] _ _ _ _ _
    refine fun g σ H D hA hm => ?_
    refine x_forL ?_
    refine (ev_var rfl) _ _ _ _ _ hA fun v H hA => ?_
    refine wk_list (xs := s2) (e := (eT eI)) hA (f_for (e := (eT eI)) (fun (s5 : (List (List Int))) => [none, none, some (.dat ((eP3 eI eI eI) b3)), some (.own none (.lst (List.map (eT eI) s5))), none, none]) (s0 := longer_4) (.d (.d (.s (.s (.d (.d .nil)))))) hm (hb_of (e := (eT eI)) (js := [4]) (ps := fun b6 => [(eT eI) b6]) (fun b => tj_name) (hjl (n := 6) (fun s => rfl) (by decide)) (fun s5 b6 => ?_)) (fun s5 => ?_))
    ·
      change BJ K _ [none, none, some (.dat ((eP3 eI eI eI) b3)), some (.own none (.lst (List.map (eT eI) s5))), some (.dat ((eT eI) b6)), none] _ _ _ _ _
      refine fun g σ H D hA hm => ?_
      refine x_forR1 ?_
      refine (ev_op (ev_var rfl) ev_int (o2_ixK (p := eI b3.2.1))) _ _ _ _ _ hA fun v H hA => ?_
      refine f_rng1 (b := b3.2.1) hA hm fun hm => f_for (e := eI) (fun (s8 : (List (List Int))) => [none, none, some (.dat ((eP3 eI eI eI) b3)), some (.own none (.lst (List.map (eT eI) s8))), some (.dat ((eT eI) b6)), none]) (s0 := s5) (.d (.d (.s (.s (.s (.d .nil)))))) hm (hb_of (e := eI) (js := [5]) (ps := fun b9 => [eI b9]) (fun b => tj_name) (hjl (n := 6) (fun s => rfl) (by decide)) (fun s8 b9 => ?_)) (fun s8 => ?_)
      ·
        change BJ K _ [none, none, some (.dat ((eP3 eI eI eI) b3)), some (.own none (.lst (List.map (eT eI) s8))), some (.dat ((eT eI) b6)), some (.dat (eI b9))] _ _ _ _ _
        refine fun g σ H D hA hm => x_drop ?_
        refine x_app rfl hA fun x H hA => ?_
        refine x_op ?_
        refine (ev_var rfl) _ _ _ _ _ hA fun v H hA => ?_
        refine (ev_tup [eI b9] (ea_cons (ev_var rfl) ea_nil)) _ _ _ _ _ hA fun v H hA => ?_
        refine f_o2m (o2_catT (xs := b6) (ys := [b9]) (e := eI)) hA hm fun t10 v H hA hm => ?_
        refine f_appm (xs := s8) (e := (eT eI)) rfl hA hm fun ys11 H hA hm => ?_
        refine bj_go hA hm ?_
        change BJ K _ [none, none, some (.dat ((eP3 eI eI eI) b3)), some (.own none (.lst (List.map (eT eI) ys11))), some (.dat ((eT eI) b6)), some (.dat (eI b9))] _ _ _ _ _
        exact bj_nx (a := ys11) (.d (.d (.s (.s (.s (.d .nil))))))
      ·
        change BJ K _ [none, none, some (.dat ((eP3 eI eI eI) b3)), some (.own none (.lst (List.map (eT eI) s8))), some (.dat ((eT eI) b6)), none] _ _ _ _ _
        exact bj_nx (a := s8) (.d (.d (.s (.s (.d (.d .nil))))))
    ·
      change BJ K _ [none, none, some (.dat ((eP3 eI eI eI) b3)), some (.own none (.lst (List.map (eT eI) s5))), none, none] _ _ _ _ _
      refine fun g σ H D hA hm => x_asg ?_
      refine (ev_cb1 (ev_own rfl) (o1_list (.l (.als rfl)))) _ _ _ _ _ hA fun v H hA => ?_
      replace hA := hA.frz
      refine f_setgo hA (fun j z => nomatch z) rfl hm ?_
      change BJ K _ [none, some (.dat ((eL (eT eI)) s5)), some (.dat ((eP3 eI eI eI) b3)), some (.own none (.lst (List.map (eT eI) s5))), none, none] _ _ _ _ _
      exact bj_nx (a := s5) (.d (.s (.d (.d (.d (.d .nil))))))
  ·
    change BJ K _ [none, some (.dat ((eL (eT eI)) s2)), none, none, none, none] _ _ _ _ _
    refine fun g σ H D hA hm => x_ret ?_
    refine (ev_var rfl) _ _ _ _ _ hA fun v H hA => ?_
    exact hm v H _ (hA.weak1 (.d .nil) fun j z => nomatch z)
theorem ok_law_at (T : Txt K mg Z) : FnOk P w K mg base (L2.CX P w) 1 Z.f_law_at Z.d_law_at ["jobs", "offsets"] (Spec K Z.ec 2 pre_law_at f_law_at post_law_at ret_law_at) := by
  refine fn_ok T.d_law_at.F sc_law_at rfl m_law_at fun cdv A outer s H E hr => ?_
  refine ⟨_, (pss_cons (ps_ret (pe_callTy (r := rTuple K) c_tuple (by rfl) T.z_tuple (by decide +kernel) (pa_cons (pe_lc (own := [("t", 2)]) (g := gName 2) rfl sc_law_at.nd (pi_range1 (by rfl) T.z_range (pa_cons (pe_callB (r := rLen K) c_len (by rfl) T.z_len (by decide +kernel) (pa_cons (pv 0) pa_nil)) pa_nil)) (blkOk_by (N := ["jobs", "offsets", "t"]) (sc := defScope st_law_at) (by decide +kernel)) (fun _ _ _ _ _ => (pg_name (i := 2) sc_law_at.nd rfl (Or.inl rfl))) (fun _ _ _ _ _ => pts_nil) (fun _ _ _ _ _ => (pe_tup (pa_cons (pe_ix (r := rIxT K) ix_tup (pe_ix (r := rIxT K) ix_tup (pv 0) (pv 2) (fun _ _ => rfl)) pe_int (fun _ _ => rfl)) (pa_cons (pe_ix (r := rIxT K) ix_tup (pe_ix (r := rIxT K) ix_tup (pv 0) (pv 2) (fun _ _ => rfl)) pe_int (fun _ _ => rfl)) (pa_cons (pe_ix (r := rIxT K) ix_tup (pv 1) (pv 2) (fun _ _ => rfl)) pa_nil)))))) pa_nil)))
  pss_nil), ?_⟩
  intro a as _
  change BJ K _ [some (.dat ((eT (eP3 eI eI eI)) a.1)), some (.dat ((eT eI) a.2)), none] _ _ _ _ _
  refine fun g σ H D hA hm => x_ret ?_
  refine x_cb1 ?_
  refine x_lcR1 ?_
  refine (ev_cb1 (ev_var rfl) (o1_lenT a.1 (eP3 eI eI eI) .t)) _ _ _ _ _ hA fun v H hA => ?_
  refine f_rng1 (b := ((a.1).length : Int)) hA hm fun hm => f_lcW (e := eI) (enc := (eP3 eI eI eI)) (js := [2]) (ps := fun b2 => [eI b2]) (fun (s3 : Unit) => [some (.dat ((eT (eP3 eI eI eI)) a.1)), some (.dat ((eT eI) a.2)), none]) (()) (fun b => tj_name) (by decide) (hnl fun s => rfl) (hnl fun s => rfl) (by decide) (lj_fwd fun s3 b2 g σ τ H Q Qn hA hm => ?_) hm (fun r4 v H hA hm => ?_)
  ·
    replace hA : At K g [some (.dat ((eT (eP3 eI eI eI)) a.1)), some (.dat ((eT eI) a.2)), some (.dat (eI b2))] _ _ _ := hA
    refine x_yes ?_
    refine x_tup ?_
    refine x_cons ?_
    refine x_op ?_
    refine x_op ?_
    refine (ev_var rfl) _ _ _ _ _ hA fun v H hA => ?_
    refine (ev_var rfl) _ _ _ _ _ hA fun v H hA => ?_
    refine f_o2m (o2_idxT (xs := a.1) (e := (eP3 eI eI eI))) hA hm fun t5 v H hA hm => ?_
    refine ev_int _ _ _ _ _ hA fun v H hA => ?_
    refine (o2_ixK (p := eI t5.1) rfl) _ _ _ _ _ _ _ hA fun v H hA => ?_
    refine x_cons ?_
    refine x_op ?_
    refine x_op ?_
    refine (ev_var rfl) _ _ _ _ _ hA fun v H hA => ?_
    refine (ev_var rfl) _ _ _ _ _ hA fun v H hA => ?_
    refine f_o2m (o2_idxT (xs := a.1) (e := (eP3 eI eI eI))) hA hm fun t6 v H hA hm => ?_
    refine ev_int _ _ _ _ _ hA fun v H hA => ?_
    refine (o2_ixK (p := eI t6.2.1) rfl) _ _ _ _ _ _ _ hA fun v H hA => ?_
    refine x_cons ?_
    refine x_op ?_
    refine (ev_var rfl) _ _ _ _ _ hA fun v H hA => ?_
    refine (ev_var rfl) _ _ _ _ _ hA fun v H hA => ?_
    refine f_o2m (o2_idxT (xs := a.2) (e := eI)) hA hm fun t7 v H hA hm => ?_
    refine x_nil ?_
    refine f_tup (vs := [_, _, _]) [eI t5.1, eI t6.2.1, eI t7] hA rfl (Nat.le_of_ble_eq_true rfl) fun v H hA => ?_
    exact hm v H hA
  ·
    replace hA : At K g [some (.dat ((eT (eP3 eI eI eI)) a.1)), some (.dat ((eT eI) a.2)), none] _ _ _ := hA
    refine o1_tuple (.l .own) _ _ _ _ _ _ hA fun v H hA => ?_
    exact hm v H _ (hA.weak1 (.d (.d .nil)) fun j z => nomatch z)
theorem ok_law_rows_fit (T : Txt K mg Z) : FnOk P w K mg base (L2.CX P w) 7 Z.f_law_rows_fit Z.d_law_rows_fit ["jobs"] (Spec K Z.ec 1 pre_law_rows_fit f_law_rows_fit post_law_rows_fit ret_law_rows_fit) := by
  refine fn_ok T.d_law_rows_fit.F sc_law_rows_fit rfl m_law_rows_fit fun cdv A outer s H E hr => ?_
  refine ⟨_, (pss_cons (ps_set (i := 1) sc_law_rows_fit.nd rfl (Or.inl rfl) pe_bl)
  (pss_cons (ps_for (passes_of rfl) rfl (pi_range1 (by rfl) T.z_range (pa_cons (pe_callB (r := rLen K) c_len (by rfl) T.z_len (by decide +kernel) (pa_cons (pv 0) pa_nil)) pa_nil)) (pg_name (i := 2) sc_law_rows_fit.nd rfl (Or.inl rfl)) (pss_cons (ps_set (i := 4) sc_law_rows_fit.nd rfl (Or.inl rfl) (pe_callS (ok_law_responses T) (hr.mono (by decide)) (by rfl) T.d_law_responses.g T.d_law_responses.F.kp T.d_law_responses.b (fun σ => passAt (takes_of rfl rfl rfl rfl) σ) (pa_cons (pv 0) (pa_cons (pv 2) pa_nil))))
  (pss_cons (ps_set (i := 3) sc_law_rows_fit.nd rfl (Or.inl rfl) (pe_callS (ok_rows_of_response T) (hr.mono (by decide)) (by rfl) T.d_rows_of_response.g T.d_rows_of_response.F.kp T.d_rows_of_response.b (fun σ => passAt (takes_of rfl rfl rfl rfl) σ) (pa_cons (pv 0) (pa_cons (pv 2) pa_nil))))
  (pss_cons (ps_if (pw_or (pt_not (pt_val (pe_callB (r := rIsi K) call_isi (by rfl) T.z_isinstance (by decide +kernel) (pa_cons (pv 3) (pa_cons (pe_bltn (v := .ty "tuple") (u := .type "tuple") (by rfl) T.z_tuple (by decide +kernel) rfl) pa_nil))))) (pw_or1 (pt_cmpR (r := rNeD K) (op_neD hr.units) (pv 3) (pe_callTy (r := rTuple K) c_tuple (by rfl) T.z_tuple (by decide +kernel) (pa_cons (pv 4) pa_nil)) (nomark _)))).pt (pss_cons (ps_ret pe_bl)
  pss_nil) pss_nil)
  (pss_cons (ps_for (passes_of rfl) rfl (pi_tup (pv 3)) (pg_name (i := 5) sc_law_rows_fit.nd rfl (Or.inl rfl)) (pss_cons (ps_if (pt_not (pt_val (pe_callS (ok_law_int T) (hr.mono (by decide)) (by rfl) T.d_law_int.g T.d_law_int.F.kp T.d_law_int.b (fun σ => passAt (takes_of rfl rfl rfl rfl) σ) (pa_cons (pv 5) pa_nil)))) (pss_cons (ps_ret pe_bl)
  pss_nil) pss_nil)
  pss_nil))
  (pss_cons (ps_set (i := 6) sc_law_rows_fit.nd rfl (Or.inl rfl) (pe_ix (r := rIxL K) ix_list (pv 4) (pe_op op_sub (pe_callB (r := rLen K) c_len (by rfl) T.z_len (by decide +kernel) (pa_cons (pv 4) pa_nil)) pe_int) (fun _ _ => rfl)))
  (pss_cons (ps_set (i := 7) sc_law_rows_fit.nd rfl (Or.inl rfl) (pe_callS (ok_response T) (hr.mono (by decide)) (by rfl) T.d_response.g T.d_response.F.kp T.d_response.b (fun σ => passAt (takes_of rfl rfl rfl rfl) σ) (pa_cons (pv 0) (pa_cons (pv 2) pa_nil))))
  (pss_cons (ps_if (pt_cmpR op_gt (pv 6) (pe_ix (r := rIxT K) ix_tup (pe_ix (r := rIxT K) ix_tup (pv 0) (pv 2) (fun _ _ => rfl)) pe_int (fun _ _ => rfl)) (nomark _)) (pss_cons (ps_set (i := 1) sc_law_rows_fit.nd rfl (Or.inl rfl) pe_bl)
  (pss_cons (ps_if (pt_cmpR p_notN (pv 7) pe_non (nomark _)) (pss_cons (ps_ret pe_bl)
  pss_nil) pss_nil)
  pss_nil)) (pss_cons (ps_if (pw_or (pt_not (pt_val (pe_callS (ok_law_int T) (hr.mono (by decide)) (by rfl) T.d_law_int.g T.d_law_int.F.kp T.d_law_int.b (fun σ => passAt (takes_of rfl rfl rfl rfl) σ) (pa_cons (pv 7) pa_nil)))) (pw_or1 (pt_cmpR (r := rNeD K) (op_neD hr.units) (pv 7) (pv 6) (nomark _)))).pt (pss_cons (ps_ret pe_bl)
  pss_nil) pss_nil)
  pss_nil))
  pss_nil))))))))
  (pss_cons (ps_set (i := 3) sc_law_rows_fit.nd rfl (Or.inl rfl) (pe_callS (ok_never_misses T) (hr.mono (by decide)) (by rfl) T.d_never_misses.g T.d_never_misses.F.kp T.d_never_misses.b (fun σ => passAt (takes_of rfl rfl rfl rfl) σ) (pa_cons (pv 0) pa_nil)))
  (pss_cons (ps_ret (pe_and (pe_callB (r := rIsi K) call_isi (by rfl) T.z_isinstance (by decide +kernel) (pa_cons (pv 3) (pa_cons (pe_bltn (v := .ty "bool") (u := .type "bool") (by rfl) T.z_bool (by decide +kernel) rfl) pa_nil))) (pe_one (pe_cmpR op_eq (pv 3) (pv 1) (nomark _)))))
  pss_nil)))), ?_⟩
  intro a as _
  change BJ K _ [some (.dat ((eT (eP3 eI eI eI)) a)), none, none, none, none, none, none, none] _ _ _ _ _
  refine fun g σ H D hA hm => x_asg ?_
  refine ev_bl _ _ _ _ _ hA fun v H hA => ?_
  refine f_setgo hA (fun j z => nomatch z) rfl hm ?_
  change BJ K _ [some (.dat ((eT (eP3 eI eI eI)) a)), some (.dat (eB true)), none, none, none, none, none, none] _ _ _ _ _
  refine fun g σ H D hA hm => ?_
  refine x_forR1 ?_
  refine (ev_cb1 (ev_var rfl) (o1_lenT a (eP3 eI eI eI) .t)) _ _ _ _ _ hA fun v H hA => ?_
  refine f_rng1 (b := ((a).length : Int)) hA hm fun hm => f_for (e := eI) (fun (s2 : Bool) => [some (.dat ((eT (eP3 eI eI eI)) a)), some (.dat (eB s2)), none, none, none, none, none, none]) (s0 := true) (.s (.s (.d (.d (.d (.d (.d (.d .nil)))))))) hm (hb_of (e := eI) (js := [2]) (ps := fun b3 => [eI b3]) (fun b => tj_name) (hjl (n := 8) (fun s => rfl) (by decide)) (fun s2 b3 => ?_)) (fun s2 => ?_)
  ·
    change BJ K _ [some (.dat ((eT (eP3 eI eI eI)) a)), some (.dat (eB s2)), some (.dat (eI b3)), none, none, none, none, none] _ _ _ _ _
    refine fun g σ H D hA hm => x_asg ?_
    refine x_call2 ?_
    refine (ev_var rfl) _ _ _ _ _ hA fun v H hA => ?_
    refine (ev_var rfl) _ _ _ _ _ hA fun v H hA => ?_
    refine f_call [.d ((eT (eP3 eI eI eI)) a), .d (eI b3)] (a, b3) (fun r => []) hA rfl rfl True.intro (fun as h => match as, h with | [], _ => rfl) (fun _ => rfl) (fun r as h => match as, h with | [], _ => rfl) (fun r j z => nomatch z) .nil (hm.bindR.imp (fun r4 hm v H hA => ?_) fun _ q => q)
    replace hA := hA.frz
    refine f_setgo hA (fun j z => nomatch z) rfl hm ?_
    change BJ K _ [some (.dat ((eT (eP3 eI eI eI)) a)), some (.dat (eB s2)), some (.dat (eI b3)), none, some (.dat ((eL eI) r4)), none, none, none] _ _ _ _ _
    refine fun g σ H D hA hm => x_asg ?_
    refine x_call2 ?_
    refine (ev_var rfl) _ _ _ _ _ hA fun v H hA => ?_
    replace hA := hA.box (Bx.hd (x := a) (bx_t (bx_p3 bx_i bx_i bx_i)))
    refine (ev_var rfl) _ _ _ _ _ hA fun v H hA => ?_
    refine f_call [.d (eD ((dT (dP3 PyData.int PyData.int PyData.int)) a)), .d (eI b3)] (((dT (dP3 PyData.int PyData.int PyData.int)) a), b3) (fun r => []) hA rfl rfl True.intro (fun as h => match as, h with | [], _ => rfl) (fun _ => rfl) (fun r as h => match as, h with | [], _ => rfl) (fun r j z => nomatch z) .nil (hm.bindR.imp (fun r5 hm v H hA => ?_) fun _ q => q)
    refine f_setgo hA (fun j z => nomatch z) rfl hm ?_
    change BJ K _ [some (.dat ((eT (eP3 eI eI eI)) a)), some (.dat (eB s2)), some (.dat (eI b3)), some (.dat ((eT eI) r5)), some (.dat ((eL eI) r4)), none, none, none] _ _ _ _ _
    refine bj_ifL (evb_or (evb_not (evb_B (ev_isi (d := ((dT PyData.int) r5)) .tuple (ev_var rfl) (.dat (bx_t bx_i))))) (evb_test (ev_op (ev_var rfl) (ev_cb1 (ev_var rfl) (o1_tuple (.l .dat))) (o2_neD (x := (r5 : (List Int))) (y := (r4 : (List Int))) (.dat (bx_t bx_i)) (.dat (bx_t bx_i)) (eq_t eq_i))))) ?_ ?_
    ·
      refine bj_assoc ?_
      refine fun g σ H D hA hm => x_ret ?_
      refine ev_bl _ _ _ _ _ hA fun v H hA => ?_
      exact hm v H _ (hA.weak1 (.d .nil) fun j z => nomatch z)
    ·
      refine bj_pass ?_
      refine fun g σ H D hA hm => ?_
      refine x_forT ?_
      refine (ev_var rfl) _ _ _ _ _ hA fun v H hA => ?_
      refine wk_tup (xs := r5) (e := eI) hA (f_for (e := eI) (fun (s6 : Unit) => [some (.dat ((eT (eP3 eI eI eI)) a)), some (.dat (eB s2)), some (.dat (eI b3)), none, some (.dat ((eL eI) r4)), none, none, none]) (s0 := ()) (.s (.s (.s (.d (.s (.d (.d (.d .nil)))))))) hm (hb_of (e := eI) (js := [5]) (ps := fun b7 => [eI b7]) (fun b => tj_name) (hjl (n := 8) (fun s => rfl) (by decide)) (fun s6 b7 => ?_)) (fun s6 => ?_))
      ·
        change BJ K _ [some (.dat ((eT (eP3 eI eI eI)) a)), some (.dat (eB s2)), some (.dat (eI b3)), none, some (.dat ((eL eI) r4)), some (.dat (eI b7)), none, none] _ _ _ _ _
        refine fun g σ H D hA hm => x_ifS ?_
        refine x_not ?_
        refine x_B ?_
        refine x_call1 ?_
        refine (ev_var rfl) _ _ _ _ _ hA fun v H hA => ?_
        replace hA := hA.box (Bx.hd (x := b7) bx_i)
        refine f_call [.d (eD (PyData.int b7))] (PyData.int b7) (fun r => []) hA rfl rfl True.intro (fun as h => match as, h with | [], _ => rfl) (fun _ => rfl) (fun r as h => match as, h with | [], _ => rfl) (fun r j z => nomatch z) .nil (hm.bindR.imp (fun r8 hm v H hA => ?_) fun _ q => q)
        refine f_tst (P := fun c H1 => _) hA fun hA => ?_
        refine f_ifS hm (fun hm => ?_) (fun hm => ?_)
        ·
          refine bj_go hA hm ?_
          change BJ K _ [some (.dat ((eT (eP3 eI eI eI)) a)), some (.dat (eB s2)), some (.dat (eI b3)), none, some (.dat ((eL eI) r4)), some (.dat (eI b7)), none, none] _ _ _ _ _
          refine bj_assoc ?_
          refine fun g σ H D hA hm => x_ret ?_
          refine ev_bl _ _ _ _ _ hA fun v H hA => ?_
          exact hm v H _ (hA.weak1 (.d .nil) fun j z => nomatch z)
        ·
          refine bj_go hA hm ?_
          change BJ K _ [some (.dat ((eT (eP3 eI eI eI)) a)), some (.dat (eB s2)), some (.dat (eI b3)), none, some (.dat ((eL eI) r4)), some (.dat (eI b7)), none, none] _ _ _ _ _
          refine bj_pass ?_
          exact bj_nx (a := ()) (.s (.s (.s (.d (.s (.d (.d (.d .nil))))))))
      ·
        change BJ K _ [some (.dat ((eT (eP3 eI eI eI)) a)), some (.dat (eB s2)), some (.dat (eI b3)), none, some (.dat ((eL eI) r4)), none, none, none] _ _ _ _ _
        refine fun g σ H D hA hm => x_asg ?_
        refine x_op ?_
        refine (ev_var rfl) _ _ _ _ _ hA fun v H hA => ?_
        refine (ev_op (ev_cb1 (ev_var rfl) (o1_lenT r4 eI (.l .dat))) ev_int o2_i0) _ _ _ _ _ hA fun v H hA => ?_
        refine f_o2m (o2_idxL (xs := r4) (e := eI) .dat) hA hm fun t9 v H hA hm => ?_
        refine f_setgo hA (fun j z => nomatch z) rfl hm ?_
        change BJ K _ [some (.dat ((eT (eP3 eI eI eI)) a)), some (.dat (eB s2)), some (.dat (eI b3)), none, some (.dat ((eL eI) r4)), none, some (.dat (eI t9)), none] _ _ _ _ _
        refine fun g σ H D hA hm => x_asg ?_
        refine x_call2 ?_
        refine (ev_var rfl) _ _ _ _ _ hA fun v H hA => ?_
        replace hA := hA.box (Bx.hd (x := a) (bx_t (bx_p3 bx_i bx_i bx_i)))
        refine (ev_var rfl) _ _ _ _ _ hA fun v H hA => ?_
        refine f_call [.d (eD ((dT (dP3 PyData.int PyData.int PyData.int)) a)), .d (eI b3)] (((dT (dP3 PyData.int PyData.int PyData.int)) a), b3) (fun r => []) hA rfl rfl True.intro (fun as h => match as, h with | [], _ => rfl) (fun _ => rfl) (fun r as h => match as, h with | [], _ => rfl) (fun r j z => nomatch z) .nil (hm.bindR.imp (fun r10 hm v H hA => ?_) fun _ q => q)
        refine f_setgo hA (fun j z => nomatch z) rfl hm ?_
        change BJ K _ [some (.dat ((eT (eP3 eI eI eI)) a)), some (.dat (eB s2)), some (.dat (eI b3)), none, some (.dat ((eL eI) r4)), none, some (.dat (eI t9)), some (.dat ((eO eI) r10))] _ _ _ _ _
        refine fun g σ H D hA hm => x_ifS ?_
        refine x_test ?_
        refine x_op ?_
        refine (ev_var rfl) _ _ _ _ _ hA fun v H hA => ?_
        refine x_op ?_
        refine x_op ?_
        refine (ev_var rfl) _ _ _ _ _ hA fun v H hA => ?_
        refine (ev_var rfl) _ _ _ _ _ hA fun v H hA => ?_
        refine f_o2m (o2_idxT (xs := a) (e := (eP3 eI eI eI))) hA hm fun t11 v H hA hm => ?_
        refine ev_int _ _ _ _ _ hA fun v H hA => ?_
        refine (o2_ixK (p := eI t11.2.1) rfl) _ _ _ _ _ _ _ hA fun v H hA => ?_
        refine o2_c0 _ _ _ _ _ _ _ hA fun v H hA => ?_
        refine f_tst (P := fun c H1 => _) hA fun hA => ?_
        refine f_ifS hm (fun hm => ?_) (fun hm => ?_)
        ·
          refine bj_go hA hm ?_
          change BJ K _ [some (.dat ((eT (eP3 eI eI eI)) a)), some (.dat (eB s2)), some (.dat (eI b3)), none, some (.dat ((eL eI) r4)), none, some (.dat (eI t9)), some (.dat ((eO eI) r10))] _ _ _ _ _
          refine bj_assoc ?_
          refine fun g σ H D hA hm => x_asg ?_
          refine ev_bl _ _ _ _ _ hA fun v H hA => ?_
          refine f_setgo hA (fun j z => nomatch z) rfl hm ?_
          change BJ K _ [some (.dat ((eT (eP3 eI eI eI)) a)), some (.dat (eB false)), some (.dat (eI b3)), none, some (.dat ((eL eI) r4)), none, some (.dat (eI t9)), some (.dat ((eO eI) r10))] _ _ _ _ _
          refine bj_assoc ?_
          refine bj_ifL (evb_test (ev_op (ev_var rfl) ev_non (o2_notN nn_i))) ?_ ?_
          ·
            refine bj_assoc ?_
            refine fun g σ H D hA hm => x_ret ?_
            refine ev_bl _ _ _ _ _ hA fun v H hA => ?_
            exact hm v H _ (hA.weak1 (.d .nil) fun j z => nomatch z)
          ·
            refine bj_pass ?_
            refine bj_pass ?_
            exact bj_nx (a := false) (.s (.s (.d (.d (.d (.d (.d (.d .nil))))))))
        ·
          refine bj_go hA hm ?_
          change BJ K _ [some (.dat ((eT (eP3 eI eI eI)) a)), some (.dat (eB s2)), some (.dat (eI b3)), none, some (.dat ((eL eI) r4)), none, some (.dat (eI t9)), some (.dat ((eO eI) r10))] _ _ _ _ _
          refine bj_assoc ?_
          refine fun g σ H D hA hm => x_ifS ?_
          refine f_joinT (fun (s : Bool) => [some (.dat ((eT (eP3 eI eI eI)) a)), some (.dat (eB s2)), some (.dat (eI b3)), none, some (.dat ((eL eI) r4)), none, some (.dat (eI t9)), some (.dat ((eO eI) r10))]) (fun s => s) hA hm (fun hm => ?_) (fun j12 H hA hm => ?_)
          ·
            refine x_orT ?_
            refine x_not ?_
            refine x_B ?_
            refine x_call1 ?_
            refine (ev_var rfl) _ _ _ _ _ hA fun v H hA => ?_
            replace hA := hA.box (Bx.hd (x := r10) (bx_o bx_i))
            refine f_call [.d (eD ((dO PyData.int) r10))] ((dO PyData.int) r10) (fun r => []) hA rfl rfl True.intro (fun as h => match as, h with | [], _ => rfl) (fun _ => rfl) (fun r as h => match as, h with | [], _ => rfl) (fun r j z => nomatch z) .nil (hm.bindR.imp (fun r13 hm v H hA => ?_) fun _ q => q)
            refine f_tst (P := fun c H1 => _) hA fun hA => ?_
            refine f_pick hm (fun hm => ?_) (fun hm => ?_)
            ·
              exact hm H hA
            ·
              refine (evb_test (ev_op (ev_var rfl) (ev_var rfl) (o2_neD (d := (dO PyData.int)) (x := (r10 : (Option Int))) (y := ((some t9) : (Option Int))) (DpT.dat (d := (dO PyData.int)) (x := (r10 : (Option Int))) (bx_o bx_i)) (DpT.dat (d := PyData.int) (x := (t9 : Int)) bx_i) (eq_o eq_i non_i)))) _ _ _ _ _ hA fun H hA => ?_
              exact hm H hA
          ·
            replace hA : At K g [some (.dat ((eT (eP3 eI eI eI)) a)), some (.dat (eB s2)), some (.dat (eI b3)), none, some (.dat ((eL eI) r4)), none, some (.dat (eI t9)), some (.dat ((eO eI) r10))] _ _ _ := hA
            refine f_ifS hm (fun hm => ?_) (fun hm => ?_)
            ·
              refine bj_go hA hm ?_
              change BJ K _ [some (.dat ((eT (eP3 eI eI eI)) a)), some (.dat (eB s2)), some (.dat (eI b3)), none, some (.dat ((eL eI) r4)), none, some (.dat (eI t9)), some (.dat ((eO eI) r10))] _ _ _ _ _
              refine bj_assoc ?_
              refine fun g σ H D hA hm => x_ret ?_
              refine ev_bl _ _ _ _ _ hA fun v H hA => ?_
              exact hm v H _ (hA.weak1 (.d .nil) fun j z => nomatch z)
            ·
              refine bj_go hA hm ?_
              change BJ K _ [some (.dat ((eT (eP3 eI eI eI)) a)), some (.dat (eB s2)), some (.dat (eI b3)), none, some (.dat ((eL eI) r4)), none, some (.dat (eI t9)), some (.dat ((eO eI) r10))] _ _ _ _ _
              refine bj_pass ?_
              refine bj_pass ?_
              exact bj_nx (a := s2) (.s (.s (.d (.d (.d (.d (.d (.d .nil))))))))
  ·
    change BJ K _ [some (.dat ((eT (eP3 eI eI eI)) a)), some (.dat (eB s2)), none, none, none, none, none, none] _ _ _ _ _
    refine fun g σ H D hA hm => x_asg ?_
    refine x_call1 ?_
    refine (ev_var rfl) _ _ _ _ _ hA fun v H hA => ?_
    replace hA := hA.box (Bx.hd (x := a) (bx_t (bx_p3 bx_i bx_i bx_i)))
    refine f_call [.d (eD ((dT (dP3 PyData.int PyData.int PyData.int)) a))] ((dT (dP3 PyData.int PyData.int PyData.int)) a) (fun r => []) hA rfl rfl True.intro (fun as h => match as, h with | [], _ => rfl) (fun _ => rfl) (fun r as h => match as, h with | [], _ => rfl) (fun r j z => nomatch z) .nil (hm.bindR.imp (fun r14 hm v H hA => ?_) fun _ q => q)
    refine f_setgo hA (fun j z => nomatch z) rfl hm ?_
    change BJ K _ [some (.dat ((eT (eP3 eI eI eI)) a)), some (.dat (eB s2)), none, some (.dat (eB r14)), none, none, none, none] _ _ _ _ _
    refine fun g σ H D hA hm => x_ret ?_
    refine (ev_andV (ev_isi (d := (PyData.bool r14)) .bool (ev_var rfl) (.dat bx_b)) (ev_op (ev_var rfl) (ev_var rfl) o2_eqB)) _ _ _ _ _ hA fun v H hA => ?_
    exact hm v H _ (hA.weak1 (.d .nil) fun j z => nomatch z)
theorem ok_law_refused (T : Txt K mg Z) : FnOk P w K mg base (L2.CX P w) 7 Z.f_law_refused Z.d_law_refused ["word", "jobs"] (Spec K Z.ec 2 pre_law_refused f_law_refused post_law_refused ret_law_refused) := by
  refine fn_ok T.d_law_refused.F sc_law_refused rfl m_law_refused fun cdv A outer s H E hr => ?_
  refine ⟨_, (pss_cons (ps_set (i := 2) sc_law_refused.nd rfl (Or.inl rfl) pe_str)
  (pss_cons (ps_try rfl rfl sc_law_refused.nd (takes_of rfl rfl rfl rfl) (fun W pn xe tk' pso => (pss_cons (ps_if (pt_cmpR op_eq (pv 0) pe_int (nomark _)) (pss_cons (ps_expr (pe_callS (ok_response T) (hr.mono (by decide)) (by rfl) T.d_response.g T.d_response.F.kp T.d_response.b (fun σ => passAt tk' σ) (pa_cons (pv 1) (pa_cons pe_int pa_nil))))
  pss_nil) (pss_cons (ps_if (pt_cmpR op_eq (pv 0) pe_int (nomark _)) (pss_cons (ps_expr (pe_callS (ok_rows_of_response T) (hr.mono (by decide)) (by rfl) T.d_rows_of_response.g T.d_rows_of_response.F.kp T.d_rows_of_response.b (fun σ => passAt tk' σ) (pa_cons (pv 1) (pa_cons (pe_un un_neg pe_int) pa_nil))))
  pss_nil) (pss_cons (ps_expr (pe_callS (ok_never_misses T) (hr.mono (by decide)) (by rfl) T.d_never_misses.g T.d_never_misses.F.kp T.d_never_misses.b (fun σ => passAt tk' σ) (pa_cons (pv 1) pa_nil)))
  pss_nil))
  pss_nil))
  pss_nil)) (HsOk.named (i := 3) ⟨by rfl, by decide, .inl T.x_BadNumber.g⟩ rfl rfl (fun a oe cls d pn hz hf => (pss_cons (ps_set (i := 2) sc_law_refused.nd rfl (Or.inl rfl) (pe_xf T.x_BadNumber.xf (T.x_BadNumber.no _ (by decide)) hz hf (pv 3)))
  pss_nil)) (HsOk.named (i := 3) ⟨by rfl, by decide, .inl T.x_TooMany.g⟩ rfl rfl (fun a oe cls d pn hz hf => (pss_cons (ps_set (i := 2) sc_law_refused.nd rfl (Or.inl rfl) (pe_callTy c_str (by rfl) T.z_str (by decide +kernel) (pa_cons (pe_xf T.x_TooMany.xf (T.x_TooMany.no _ (by decide)) hz hf (pv 3)) pa_nil)))
  pss_nil)) HsOk.nil)))
  (pss_cons (ps_ret (pv 2))
  pss_nil))), ?_⟩
  intro a as _
  change BJ K _ [some (.dat (eI a.1)), some (.dat (eD a.2)), none, none] _ _ _ _ _
  refine fun g σ H D hA hm => x_asg ?_
  refine ev_str _ _ _ _ _ hA fun v H hA => ?_
  refine f_setlt (e := ("" : Str)) (fun t => .dat (eS t)) hA (fun t j z => nomatch z) rfl hm (fun told_1 => ?_)
  change BJ K _ [some (.dat (eI a.1)), some (.dat (eD a.2)), some (.dat (eS told_1)), none] _ _ _ _ _
  refine bj_seq (n1 := fun (s3 : Str) => [none, none, some (.dat (eS s3)), none]) ?_ (fun s3 => ?_)
  ·
    refine bj_try (Gt := [none, none, some (.dat (eS told_1)), none]) ?_ ?_ (fun W => ?_) ?_
    · rfl
    · exact .nil
    ·
      change BJ K _ [some (.dat (eI a.1)), some (.dat (eD a.2)), some (.dat (eS told_1)), none] _ _ _ _ _
      refine bj_ifL (evb_test (ev_op (ev_var rfl) ev_int o2_eqI)) ?_ ?_
      ·
        refine bj_assoc ?_
        refine fun g σ H D hA hm => x_drop ?_
        refine x_call2 ?_
        refine (ev_var rfl) _ _ _ _ _ hA fun v H hA => ?_
        refine ev_int _ _ _ _ _ hA fun v H hA => ?_
        refine f_call [.d (eD a.2), .d (eI (9 : Int))] (a.2, (9 : Int)) (fun r => []) hA rfl rfl True.intro (fun as h => match as, h with | [], _ => rfl) (fun _ => rfl) (fun r as h => match as, h with | [], _ => rfl) (fun r j z => nomatch z) (.d (.d (.s (.d .nil)))) (hm.bindR.imp (fun r4 hm v H hA => ?_) fun _ q => q)
        refine f_dropgo hA hm ?_
        change BJ K _ [some (.dat (eI a.1)), some (.dat (eD a.2)), some (.dat (eS told_1)), none] _ _ _ _ _
        refine bj_pass ?_
        exact bj_nx (a := told_1) (.d (.d (.s (.d .nil))))
      ·
        refine bj_assoc ?_
        refine bj_ifL (evb_test (ev_op (ev_var rfl) ev_int o2_eqI)) ?_ ?_
        ·
          refine bj_assoc ?_
          refine fun g σ H D hA hm => x_drop ?_
          refine x_call2 ?_
          refine (ev_var rfl) _ _ _ _ _ hA fun v H hA => ?_
          refine (ev_un ev_int o1_neg) _ _ _ _ _ hA fun v H hA => ?_
          refine f_call [.d (eD a.2), .d (eI (-(1 : Int)))] (a.2, (-(1 : Int))) (fun r => []) hA rfl rfl True.intro (fun as h => match as, h with | [], _ => rfl) (fun _ => rfl) (fun r as h => match as, h with | [], _ => rfl) (fun r j z => nomatch z) (.d (.d (.s (.d .nil)))) (hm.bindR.imp (fun r5 hm v H hA => ?_) fun _ q => q)
          refine f_dropgo hA hm ?_
          change BJ K _ [some (.dat (eI a.1)), some (.dat (eD a.2)), some (.dat (eS told_1)), none] _ _ _ _ _
          refine bj_pass ?_
          refine bj_pass ?_
          exact bj_nx (a := told_1) (.d (.d (.s (.d .nil))))
        ·
          refine bj_assoc ?_
          refine fun g σ H D hA hm => x_drop ?_
          refine x_call1 ?_
          refine (ev_var rfl) _ _ _ _ _ hA fun v H hA => ?_
          refine f_call [.d (eD a.2)] a.2 (fun r => []) hA rfl rfl True.intro (fun as h => match as, h with | [], _ => rfl) (fun _ => rfl) (fun r as h => match as, h with | [], _ => rfl) (fun r j z => nomatch z) (.d (.d (.s (.d .nil)))) (hm.bindR.imp (fun r6 hm v H hA => ?_) fun _ q => q)
          refine f_dropgo hA hm ?_
          change BJ K _ [some (.dat (eI a.1)), some (.dat (eD a.2)), some (.dat (eS told_1)), none] _ _ _ _ _
          refine bj_pass ?_
          refine bj_pass ?_
          exact bj_nx (a := told_1) (.d (.d (.s (.d .nil))))
    ·
      refine HJ.cons (io := (some 3)) (sub := sub_BadNumber) (fun nm r h => T.sub_BadNumber nm r h) ?_ (fun x2 ax dx => ?_) ?_
      · intro i z; cases z; exact ⟨(show 3 < 4 by decide), fun a => .inl rfl, fun a => a.elim, fun a => a.elim⟩
      ·
        change BJ K _ [none, none, some (.dat (eS told_1)), some (.dat (eX ax dx x2))] _ _ _ _ _
        refine fun g σ H D hA hm => x_asg ?_
        refine x_xfm (x := x2) (cn := "BadNumber") T.ec_BadNumber rfl hA hm fun t7 v H hA hm => ?_
        refine f_str hA hm fun t8 hA hm => ?_
        refine f_setgo hA (fun j z => nomatch z) rfl hm ?_
        change BJ K _ [none, none, some (.dat (eS t8)), some (.dat (eX ax dx x2))] _ _ _ _ _
        exact bj_nx (a := t8) (.d (.d (.s (.d .nil))))
      refine HJ.cons (io := (some 3)) (sub := sub_TooMany) (fun nm r h => T.sub_TooMany nm r h) ?_ (fun x2 ax dx => ?_) ?_
      · intro i z; cases z; exact ⟨(show 3 < 4 by decide), fun a => .inl rfl, fun a => a.elim, fun a => a.elim⟩
      ·
        change BJ K _ [none, none, some (.dat (eS told_1)), some (.dat (eX ax dx x2))] _ _ _ _ _
        refine fun g σ H D hA hm => x_asg ?_
        refine x_cb1 ?_
        refine x_xfm (x := x2) (cn := "TooMany") T.ec_TooMany rfl hA hm fun t9 v H hA hm => ?_
        refine f_int hA hm fun t11 hA hm => ?_
        refine f_o1m o1_str hA hm fun t10 v H hA hm => ?_
        refine f_setgo hA (fun j z => nomatch z) rfl hm ?_
        change BJ K _ [none, none, some (.dat (eS t10)), some (.dat (eX ax dx x2))] _ _ _ _ _
        exact bj_nx (a := t10) (.d (.d (.s (.d .nil))))
      exact HJ.nil
  ·
    change BJ K _ [none, none, some (.dat (eS s3)), none] _ _ _ _ _
    refine fun g σ H D hA hm => x_ret ?_
    refine (ev_var rfl) _ _ _ _ _ hA fun v H hA => ?_
    exact hm v H _ (hA.weak1 (.d (.d .nil)) fun j z => nomatch z)
theorem ok_law_refusals_fit (T : Txt K mg Z) : FnOk P w K mg base (L2.CX P w) 8 Z.f_law_refusals_fit Z.d_law_refusals_fit ["numbers", "jobs"] (Spec K Z.ec 2 pre_law_refusals_fit f_law_refusals_fit post_law_refusals_fit ret_law_refusals_fit) := by
  refine fn_ok T.d_law_refusals_fit.F sc_law_refusals_fit rfl m_law_refusals_fit fun cdv A outer s H E hr => ?_
  refine ⟨_, (pss_cons (ps_set (i := 2) sc_law_refusals_fit.nd rfl (Or.inl rfl) (pe_callS (ok_law_draw T) (hr.mono (by decide)) (by rfl) T.d_law_draw.g T.d_law_draw.F.kp T.d_law_draw.b (fun σ => passAt (takes_of rfl rfl rfl rfl) σ) (pa_cons (pv 0) (pa_cons (pe_callB (r := rLen K) c_len (by rfl) T.z_len (by decide +kernel) (pa_cons (pv 1) pa_nil)) pa_nil))))
  (pss_cons (ps_for (passes_of rfl) rfl (pi_range1 (by rfl) T.z_range (pa_cons pe_int pa_nil)) (pg_name (i := 3) sc_law_refusals_fit.nd rfl (Or.inl rfl)) (pss_cons (ps_for (passes_of rfl) rfl (pi_list (pe_lst (pa_cons (pe_tup (pa_cons pe_int (pa_cons pe_int (pa_cons pe_int pa_nil)))) (pa_cons (pe_tup (pa_cons pe_int (pa_cons pe_int (pa_cons pe_int pa_nil)))) (pa_cons (pe_tup (pa_cons pe_int (pa_cons pe_int (pa_cons pe_int pa_nil)))) (pa_cons (pe_tup (pa_cons pe_int (pa_cons pe_int (pa_cons pe_int pa_nil)))) (pa_cons (pe_tup (pa_cons pe_int (pa_cons pe_int (pa_cons pe_int pa_nil)))) (pa_cons (pe_tup (pa_cons pe_int (pa_cons pe_int (pa_cons (pe_un un_neg pe_int) pa_nil)))) (pa_cons (pe_tup (pa_cons pe_int (pa_cons pe_int pa_nil))) (pa_cons pe_int pa_nil)))))))))) (pg_name (i := 4) sc_law_refusals_fit.nd rfl (Or.inl rfl)) (pss_cons (ps_if (pt_cmpR op_ne (pe_callS (ok_law_refused T) (hr.mono (by decide)) (by rfl) T.d_law_refused.g T.d_law_refused.F.kp T.d_law_refused.b (fun σ => passAt (takes_of rfl rfl rfl rfl) σ) (pa_cons (pv 3) (pa_cons (pe_op (r := rCatA K) op_catA (pe_op (r := rCatA K) op_catA (pe_slice (r := rSlA K) sl_tupA (pv 1) po_none (po_some (pv 2))) (pe_tup (pa_cons (pv 4) pa_nil))) (pe_slice (r := rSlA K) sl_tupA (pv 1) (po_some (pe_op op_add (pv 2) pe_int)) po_none)) pa_nil))) pe_str (nomark _)) (pss_cons (ps_ret pe_bl)
  pss_nil) pss_nil)
  pss_nil))
  (pss_cons (ps_if (pw_or (pt_cmpR op_ne (pe_callS (ok_law_refused T) (hr.mono (by decide)) (by rfl) T.d_law_refused.g T.d_law_refused.F.kp T.d_law_refused.b (fun σ => passAt (takes_of rfl rfl rfl rfl) σ) (pa_cons (pv 3) (pa_cons (pe_op (r := rRepT K) op_repT (pe_tup (pa_cons (pe_tup (pa_cons pe_int (pa_cons pe_int (pa_cons pe_int pa_nil)))) pa_nil)) pe_int) pa_nil))) pe_str (nomark _)) (pw_or1 (pt_cmpR op_ne (pe_callS (ok_law_refused T) (hr.mono (by decide)) (by rfl) T.d_law_refused.g T.d_law_refused.F.kp T.d_law_refused.b (fun σ => passAt (takes_of rfl rfl rfl rfl) σ) (pa_cons (pv 3) (pa_cons pe_int pa_nil))) pe_str (nomark _)))).pt (pss_cons (ps_ret pe_bl)
  pss_nil) pss_nil)
  pss_nil)))
  (pss_cons (ps_ret (pe_cmpR (r := rEqD K) (op_eqD hr.units) (pe_lc (own := [("word", 3)]) (g := gName 3) rfl sc_law_refusals_fit.nd (pi_range1 (by rfl) T.z_range (pa_cons pe_int pa_nil)) (blkOk_by (N := ["numbers", "jobs", "at", "word", "wrong"]) (sc := defScope st_law_refusals_fit) (by decide +kernel)) (fun _ _ _ _ _ => (pg_name (i := 3) sc_law_refusals_fit.nd rfl (Or.inl rfl))) (fun _ _ _ _ _ => pts_nil) (fun _ _ _ _ _ => (pe_callS (ok_law_refused T) (hr.mono (by decide)) (by rfl) T.d_law_refused.g T.d_law_refused.F.kp T.d_law_refused.b (fun σ => passAt takes0 σ) (pa_cons (pv 3) (pa_cons (pv 1) pa_nil))))) (pe_lst (pa_cons pe_str (pa_cons pe_str (pa_cons pe_str pa_nil)))) (nomark _)))
  pss_nil))), ?_⟩
  intro a as _
  change BJ K _ [some (.own (as[0]?) (.lst (List.map eI a.1))), some (.dat ((eT (eP3 eI eI eI)) a.2)), none, none, none] _ _ _ _ _
  refine fun g σ H D hA hm => x_asg ?_
  refine x_call2 ?_
  refine (ev_own rfl) _ _ _ _ _ hA fun v H hA => ?_
  refine (ev_cb1 (ev_var rfl) (o1_lenT a.2 (eP3 eI eI eI) .t)) _ _ _ _ _ hA fun v H hA => ?_
  refine f_call [.o 0 (as[0]?) (.lst (List.map eI a.1)), .d (eI ((a.2).length : Int))] (a.1, ((a.2).length : Int)) (fun r => [.lst (List.map eI r.2)]) hA rfl rfl ⟨rfl, True.intro⟩ (fun as h => match as, h with | [_], _ => rfl) (fun _ => rfl) (fun r as h => match as, h with | [_], _ => rfl) (fun r j z => nomatch z) .nil (hm.bindR.imp (fun r1 hm v H hA => ?_) fun _ q => q)
  replace hA : At K g [some (.own (as[0]?) (.lst (List.map eI r1.2))), some (.dat ((eT (eP3 eI eI eI)) a.2)), none, none, none] _ _ _ := hA
  refine f_setgo hA (fun j z => nomatch z) rfl hm ?_
  change BJ K _ [some (.own (as[0]?) (.lst (List.map eI r1.2))), some (.dat ((eT (eP3 eI eI eI)) a.2)), some (.dat (eI r1.1)), none, none] _ _ _ _ _
  refine fun g σ H D hA hm => ?_
  refine x_forR1 ?_
  refine ev_int _ _ _ _ _ hA fun v H hA => ?_
  refine f_rng1 (b := (3 : Int)) hA hm fun hm => f_for (e := eI) (fun (s3 : Unit) => [some (.own (as[0]?) (.lst (List.map eI r1.2))), some (.dat ((eT (eP3 eI eI eI)) a.2)), some (.dat (eI r1.1)), none, none]) (s0 := ()) (.s (.s (.s (.d (.d .nil))))) hm (hb_of (e := eI) (js := [3]) (ps := fun b4 => [eI b4]) (fun b => tj_name) (hjl (n := 5) (fun s => rfl) (by decide)) (fun s3 b4 => ?_)) (fun s3 => ?_)
  ·
    change BJ K _ [some (.own (as[0]?) (.lst (List.map eI r1.2))), some (.dat ((eT (eP3 eI eI eI)) a.2)), some (.dat (eI r1.1)), some (.dat (eI b4)), none] _ _ _ _ _
    refine fun g σ H D hA hm => ?_
    refine x_forL ?_
    refine (ev_lst [eD ((dP3 PyData.int PyData.int PyData.int) ((0 : Int), (4 : Int), (0 : Int))), eD ((dP3 PyData.int PyData.int PyData.int) ((13 : Int), (24 : Int), (0 : Int))), eD ((dP3 PyData.int PyData.int PyData.int) ((1 : Int), (25 : Int), (0 : Int))), eD ((dP3 PyData.int PyData.int PyData.int) ((1 : Int), (0 : Int), (0 : Int))), eD ((dP3 PyData.int PyData.int PyData.int) ((1 : Int), (4 : Int), (4 : Int))), eD ((dP3 PyData.int PyData.int PyData.int) ((1 : Int), (4 : Int), (-(1 : Int)))), eD ((dP2 PyData.int PyData.int) ((1 : Int), (4 : Int))), eD (PyData.int (3 : Int))] (ea_cons (ev_box (bx_p3 bx_i bx_i bx_i) (ev_tup [eI (0 : Int), eI (4 : Int), eI (0 : Int)] (ea_cons ev_int (ea_cons ev_int (ea_cons ev_int ea_nil))))) (ea_cons (ev_box (bx_p3 bx_i bx_i bx_i) (ev_tup [eI (13 : Int), eI (24 : Int), eI (0 : Int)] (ea_cons ev_int (ea_cons ev_int (ea_cons ev_int ea_nil))))) (ea_cons (ev_box (bx_p3 bx_i bx_i bx_i) (ev_tup [eI (1 : Int), eI (25 : Int), eI (0 : Int)] (ea_cons ev_int (ea_cons ev_int (ea_cons ev_int ea_nil))))) (ea_cons (ev_box (bx_p3 bx_i bx_i bx_i) (ev_tup [eI (1 : Int), eI (0 : Int), eI (0 : Int)] (ea_cons ev_int (ea_cons ev_int (ea_cons ev_int ea_nil))))) (ea_cons (ev_box (bx_p3 bx_i bx_i bx_i) (ev_tup [eI (1 : Int), eI (4 : Int), eI (4 : Int)] (ea_cons ev_int (ea_cons ev_int (ea_cons ev_int ea_nil))))) (ea_cons (ev_box (bx_p3 bx_i bx_i bx_i) (ev_tup [eI (1 : Int), eI (4 : Int), eI (-(1 : Int))] (ea_cons ev_int (ea_cons ev_int (ea_cons (ev_un ev_int o1_neg) ea_nil))))) (ea_cons (ev_box (bx_p2 bx_i bx_i) (ev_tup [eI (1 : Int), eI (4 : Int)] (ea_cons ev_int (ea_cons ev_int ea_nil)))) (ea_cons (ev_box bx_i ev_int) ea_nil))))))))) _ _ _ _ _ hA fun v H hA => ?_
    replace hA := hA.frz
    refine wk_list (xs := [((dP3 PyData.int PyData.int PyData.int) ((0 : Int), (4 : Int), (0 : Int))), ((dP3 PyData.int PyData.int PyData.int) ((13 : Int), (24 : Int), (0 : Int))), ((dP3 PyData.int PyData.int PyData.int) ((1 : Int), (25 : Int), (0 : Int))), ((dP3 PyData.int PyData.int PyData.int) ((1 : Int), (0 : Int), (0 : Int))), ((dP3 PyData.int PyData.int PyData.int) ((1 : Int), (4 : Int), (4 : Int))), ((dP3 PyData.int PyData.int PyData.int) ((1 : Int), (4 : Int), (-(1 : Int)))), ((dP2 PyData.int PyData.int) ((1 : Int), (4 : Int))), (PyData.int (3 : Int))]) (e := eD) hA (f_for (e := eD) (fun (s5 : Unit) => [some (.own (as[0]?) (.lst (List.map eI r1.2))), some (.dat ((eT (eP3 eI eI eI)) a.2)), some (.dat (eI r1.1)), some (.dat (eI b4)), none]) (s0 := ()) (.s (.s (.s (.s (.d .nil))))) hm (hb_of (e := eD) (js := [4]) (ps := fun b6 => [eD b6]) (fun b => tj_name) (hjl (n := 5) (fun s => rfl) (by decide)) (fun s5 b6 => ?_)) (fun s5 => ?_))
    ·
      change BJ K _ [some (.own (as[0]?) (.lst (List.map eI r1.2))), some (.dat ((eT (eP3 eI eI eI)) a.2)), some (.dat (eI r1.1)), some (.dat (eI b4)), some (.dat (eD b6))] _ _ _ _ _
      refine fun g σ H D hA hm => x_ifS ?_
      refine x_test ?_
      refine x_op ?_
      refine x_call2 ?_
      refine (ev_var rfl) _ _ _ _ _ hA fun v H hA => ?_
      refine x_op ?_
      refine x_op ?_
      refine (ev_slice (ev_var rfl) evo_none (evo_some (ev_var rfl)) (o1_cutTT (xs := a.2) (e := (eP3 eI eI eI)))) _ _ _ _ _ hA fun v H hA => ?_
      replace hA := hA.box (boxT (bx_p3 bx_i bx_i bx_i))
      refine (ev_tup [eD b6] (ea_cons (ev_var rfl) ea_nil)) _ _ _ _ _ hA fun v H hA => ?_
      refine f_o2m (o2_catT (xs := (List.map (dP3 PyData.int PyData.int PyData.int) (cutL a.2 none (some r1.1)))) (ys := [b6]) (e := eD)) hA hm fun t7 v H hA hm => ?_
      refine (ev_slice (ev_var rfl) (evo_some (ev_op (ev_var rfl) ev_int o2_i0)) evo_none (o1_cutTT (xs := a.2) (e := (eP3 eI eI eI)))) _ _ _ _ _ hA fun v H hA => ?_
      replace hA := hA.box (boxT (bx_p3 bx_i bx_i bx_i))
      refine f_o2m (o2_catT (xs := t7) (ys := (List.map (dP3 PyData.int PyData.int PyData.int) (cutL a.2 (some (r1.1 + (1 : Int))) none))) (e := eD)) hA hm fun t8 v H hA hm => ?_
      replace hA := hA.box (Bx.hd (x := t8) (bx_t bx_d))
      refine f_call [.d (eI b4), .d (eD ((dT id) t8))] (b4, ((dT id) t8)) (fun r => []) hA rfl rfl True.intro (fun as h => match as, h with | [], _ => rfl) (fun _ => rfl) (fun r as h => match as, h with | [], _ => rfl) (fun r j z => nomatch z) .nil (hm.bindR.imp (fun r9 hm v H hA => ?_) fun _ q => q)
      refine ev_str _ _ _ _ _ hA fun v H hA => ?_
      refine o2_neS _ _ _ _ _ _ _ hA fun v H hA => ?_
      refine f_tst (P := fun c H1 => _) hA fun hA => ?_
      refine f_ifS hm (fun hm => ?_) (fun hm => ?_)
      ·
        refine bj_go hA hm ?_
        change BJ K _ [some (.own (as[0]?) (.lst (List.map eI r1.2))), some (.dat ((eT (eP3 eI eI eI)) a.2)), some (.dat (eI r1.1)), some (.dat (eI b4)), some (.dat (eD b6))] _ _ _ _ _
        refine bj_assoc ?_
        refine fun g σ H D hA hm => x_ret ?_
        refine ev_bl _ _ _ _ _ hA fun v H hA => ?_
        exact hm v H _ (hA.weak1 (.s (.d .nil)) fun j z => nomatch z)
      ·
        refine bj_go hA hm ?_
        change BJ K _ [some (.own (as[0]?) (.lst (List.map eI r1.2))), some (.dat ((eT (eP3 eI eI eI)) a.2)), some (.dat (eI r1.1)), some (.dat (eI b4)), some (.dat (eD b6))] _ _ _ _ _
        refine bj_pass ?_
        exact bj_nx (a := ()) (.s (.s (.s (.s (.d .nil)))))
    ·
      change BJ K _ [some (.own (as[0]?) (.lst (List.map eI r1.2))), some (.dat ((eT (eP3 eI eI eI)) a.2)), some (.dat (eI r1.1)), some (.dat (eI b4)), none] _ _ _ _ _
      refine fun g σ H D hA hm => x_ifS ?_
      refine f_joinT (fun (s : Bool) => [some (.own (as[0]?) (.lst (List.map eI r1.2))), some (.dat ((eT (eP3 eI eI eI)) a.2)), some (.dat (eI r1.1)), some (.dat (eI b4)), none]) (fun s => s) hA hm (fun hm => ?_) (fun j10 H hA hm => ?_)
      ·
        refine x_orT ?_
        refine x_test ?_
        refine x_op ?_
        refine x_call2 ?_
        refine (ev_var rfl) _ _ _ _ _ hA fun v H hA => ?_
        refine x_op ?_
        refine (ev_tup [(eP3 eI eI eI) ((1 : Int), (6 : Int), (0 : Int))] (ea_cons (ev_tup [eI (1 : Int), eI (6 : Int), eI (0 : Int)] (ea_cons ev_int (ea_cons ev_int (ea_cons ev_int ea_nil)))) ea_nil)) _ _ _ _ _ hA fun v H hA => ?_
        refine ev_int _ _ _ _ _ hA fun v H hA => ?_
        refine f_o2m (o2_repT (xs := [((1 : Int), (6 : Int), (0 : Int))]) (e := (eP3 eI eI eI))) hA hm fun t11 v H hA hm => ?_
        replace hA := hA.box (Bx.hd (x := t11) (bx_t (bx_p3 bx_i bx_i bx_i)))
        refine f_call [.d (eI b4), .d (eD ((dT (dP3 PyData.int PyData.int PyData.int)) t11))] (b4, ((dT (dP3 PyData.int PyData.int PyData.int)) t11)) (fun r => []) hA rfl rfl True.intro (fun as h => match as, h with | [], _ => rfl) (fun _ => rfl) (fun r as h => match as, h with | [], _ => rfl) (fun r j z => nomatch z) .nil (hm.bindR.imp (fun r12 hm v H hA => ?_) fun _ q => q)
        refine ev_str _ _ _ _ _ hA fun v H hA => ?_
        refine o2_neS _ _ _ _ _ _ _ hA fun v H hA => ?_
        refine f_tst (P := fun c H1 => _) hA fun hA => ?_
        refine f_pick hm (fun hm => ?_) (fun hm => ?_)
        ·
          exact hm H hA
        ·
          refine x_test ?_
          refine x_op ?_
          refine x_call2 ?_
          refine (ev_var rfl) _ _ _ _ _ hA fun v H hA => ?_
          refine ev_int _ _ _ _ _ hA fun v H hA => ?_
          replace hA := hA.box (Bx.hd (x := (7 : Int)) bx_i)
          refine f_call [.d (eI b4), .d (eD (PyData.int (7 : Int)))] (b4, (PyData.int (7 : Int))) (fun r => []) hA rfl rfl True.intro (fun as h => match as, h with | [], _ => rfl) (fun _ => rfl) (fun r as h => match as, h with | [], _ => rfl) (fun r j z => nomatch z) .nil (hm.bindR.imp (fun r13 hm v H hA => ?_) fun _ q => q)
          refine ev_str _ _ _ _ _ hA fun v H hA => ?_
          refine o2_neS _ _ _ _ _ _ _ hA fun v H hA => ?_
          refine f_tst (P := fun c H1 => _) hA fun hA => ?_
          exact hm H hA
      ·
        replace hA : At K g [some (.own (as[0]?) (.lst (List.map eI r1.2))), some (.dat ((eT (eP3 eI eI eI)) a.2)), some (.dat (eI r1.1)), some (.dat (eI b4)), none] _ _ _ := hA
        refine f_ifS hm (fun hm => ?_) (fun hm => ?_)
        ·
          refine bj_go hA hm ?_
          change BJ K _ [some (.own (as[0]?) (.lst (List.map eI r1.2))), some (.dat ((eT (eP3 eI eI eI)) a.2)), some (.dat (eI r1.1)), some (.dat (eI b4)), none] _ _ _ _ _
          refine bj_assoc ?_
          refine fun g σ H D hA hm => x_ret ?_
          refine ev_bl _ _ _ _ _ hA fun v H hA => ?_
          exact hm v H _ (hA.weak1 (.s (.d .nil)) fun j z => nomatch z)
        ·
          refine bj_go hA hm ?_
          change BJ K _ [some (.own (as[0]?) (.lst (List.map eI r1.2))), some (.dat ((eT (eP3 eI eI eI)) a.2)), some (.dat (eI r1.1)), some (.dat (eI b4)), none] _ _ _ _ _
          refine bj_pass ?_
          exact bj_nx (a := ()) (.s (.s (.s (.d (.d .nil)))))
  ·
    change BJ K _ [some (.own (as[0]?) (.lst (List.map eI r1.2))), some (.dat ((eT (eP3 eI eI eI)) a.2)), some (.dat (eI r1.1)), none, none] _ _ _ _ _
    refine fun g σ H D hA hm => x_ret ?_
    refine x_op ?_
    refine x_lcR1 ?_
    refine ev_int _ _ _ _ _ hA fun v H hA => ?_
    refine f_rng1 (b := (3 : Int)) hA hm fun hm => f_lcW (e := eI) (enc := eS) (js := [3]) (ps := fun b15 => [eI b15]) (fun (s16 : Unit) => [some (.own (as[0]?) (.lst (List.map eI r1.2))), some (.dat ((eT (eP3 eI eI eI)) a.2)), some (.dat (eI r1.1)), none, none]) (()) (fun b => tj_name) (by decide) (hnl fun s => rfl) (hnl fun s => rfl) (by decide) (lj_fwd fun s16 b15 g σ τ H Q Qn hA hm => ?_) hm (fun r17 v H hA hm => ?_)
    ·
      replace hA : At K g [some (.own (as[0]?) (.lst (List.map eI r1.2))), some (.dat ((eT (eP3 eI eI eI)) a.2)), some (.dat (eI r1.1)), some (.dat (eI b15)), none] _ _ _ := hA
      refine x_yes ?_
      refine x_call2 ?_
      refine (ev_var rfl) _ _ _ _ _ hA fun v H hA => ?_
      refine (ev_var rfl) _ _ _ _ _ hA fun v H hA => ?_
      replace hA := hA.box (Bx.hd (x := a.2) (bx_t (bx_p3 bx_i bx_i bx_i)))
      refine f_call [.d (eI b15), .d (eD ((dT (dP3 PyData.int PyData.int PyData.int)) a.2))] (b15, ((dT (dP3 PyData.int PyData.int PyData.int)) a.2)) (fun r => []) hA rfl rfl True.intro (fun as h => match as, h with | [], _ => rfl) (fun _ => rfl) (fun r as h => match as, h with | [], _ => rfl) (fun r j z => nomatch z) .nil (hm.bindR.imp (fun r18 hm v H hA => ?_) fun _ q => q.elim)
      exact hm v H hA
    ·
      replace hA : At K g [some (.own (as[0]?) (.lst (List.map eI r1.2))), some (.dat ((eT (eP3 eI eI eI)) a.2)), some (.dat (eI r1.1)), none, none] _ _ _ := hA
      refine (ev_lst [eS ("place" : Str), eS ("place" : Str), eS ("" : Str)] (ea_cons ev_str (ea_cons ev_str (ea_cons ev_str ea_nil)))) _ _ _ _ _ hA fun v H hA => ?_
      refine f_o2m (o2_eqDM (a := ((dL PyData.str) r17.2)) (b := ((dL PyData.str) ([("place" : Str), ("place" : Str), ("" : Str)]))) (.lst bx_s .own) (.lst bx_s .own)) hA hm fun t19 v H hA hm => ?_
      exact hm v H _ (hA.weak1 (.s (.d .nil)) fun j z => nomatch z)
theorem ok_law_drawn_fits (T : Txt K mg Z) : FnOk P w K mg base (L2.CX P w) 5 Z.f_law_drawn_fits Z.d_law_drawn_fits ["jobs", "asked"] (Spec K Z.ec 2 pre_law_drawn_fits f_law_drawn_fits post_law_drawn_fits ret_law_drawn_fits) := by
  refine fn_ok T.d_law_drawn_fits.F sc_law_drawn_fits rfl m_law_drawn_fits fun cdv A outer s H E hr => ?_
  refine ⟨_, (pss_cons (ps_set (i := 2) sc_law_drawn_fits.nd rfl (Or.inl rfl) (pe_callS (ok_law_at T) (hr.mono (by decide)) (by rfl) T.d_law_at.g T.d_law_at.F.kp T.d_law_at.b (fun σ => passAt (takes_of rfl rfl rfl rfl) σ) (pa_cons (pv 0) (pa_cons (pv 1) pa_nil))))
  (pss_cons (ps_set (i := 3) sc_law_drawn_fits.nd rfl (Or.inl rfl) (pe_callS (ok_law_times T) (hr.mono (by decide)) (by rfl) T.d_law_times.g T.d_law_times.F.kp T.d_law_times.b (fun σ => passAt (takes_of rfl rfl rfl rfl) σ) (pa_cons (pv 2) pa_nil)))
  (pss_cons (ps_if (pt_cmpR (r := rNeD K) (op_neD hr.units) (pe_callS (ok_first_miss T) (hr.mono (by decide)) (by rfl) T.d_first_miss.g T.d_first_miss.F.kp T.d_first_miss.b (fun σ => passAt (takes_of rfl rfl rfl rfl) σ) (pa_cons (pv 2) pa_nil)) (pe_ix (r := rIxQ K) ix_q (pv 3) pe_int (fun _ _ => rfl)) (nomark _)) (pss_cons (ps_ret pe_bl)
  pss_nil) pss_nil)
  (pss_cons (ps_if (pt_cmpR p_notN (pe_ix (r := rIxQ K) ix_q (pv 3) pe_int (fun _ _ => rfl)) pe_non (nomark _)) (pss_cons (ps_ret pe_bl)
  pss_nil) pss_nil)
  (pss_cons (ps_for (passes_of rfl) rfl (pi_range1 (by rfl) T.z_range (pa_cons (pe_callB (r := rLen K) c_len (by rfl) T.z_len (by decide +kernel) (pa_cons (pv 0) pa_nil)) pa_nil)) (pg_name (i := 4) sc_law_drawn_fits.nd rfl (Or.inl rfl)) (pss_cons (ps_set (i := 5) sc_law_drawn_fits.nd rfl (Or.inl rfl) (pe_callS (ok_job_ends T) (hr.mono (by decide)) (by rfl) T.d_job_ends.g T.d_job_ends.F.kp T.d_job_ends.b (fun σ => passAt (takes_of rfl rfl rfl rfl) σ) (pa_cons (pv 2) (pa_cons (pv 4) (pa_cons pe_int pa_nil)))))
  (pss_cons (ps_if (pw_or (pt_not (pt_val (pe_callB (r := rIsi K) call_isi (by rfl) T.z_isinstance (by decide +kernel) (pa_cons (pv 5) (pa_cons (pe_bltn (v := .ty "tuple") (u := .type "tuple") (by rfl) T.z_tuple (by decide +kernel) rfl) pa_nil))))) (pw_or (pt_cmpR op_ne (pe_callB (r := rLen K) c_len (by rfl) T.z_len (by decide +kernel) (pa_cons (pv 5) pa_nil)) pe_int (nomark _)) (pw_or1 (pt_cmpR op_gt (pe_callB (r := rMaxT K) (cr_maxT rfl) (by rfl) T.z_max (by decide +kernel) (pa_cons (pv 5) pa_nil)) (pe_ix (r := rIxQ K) ix_q (pe_ix (r := rIxQ K) ix_q (pv 3) pe_int (fun _ _ => rfl)) (pv 4) (fun _ _ => rfl)) (nomark _))))).pt (pss_cons (ps_ret pe_bl)
  pss_nil) pss_nil)
  pss_nil)))
  (pss_cons (ps_ret pe_bl)
  pss_nil)))))), ?_⟩
  intro a as _
  change BJ K _ [some (.dat ((eT (eP3 eI eI eI)) a.1)), some (.dat ((eT eI) a.2)), none, none, none, none] _ _ _ _ _
  refine fun g σ H D hA hm => x_asg ?_
  refine x_call2 ?_
  refine (ev_var rfl) _ _ _ _ _ hA fun v H hA => ?_
  refine (ev_var rfl) _ _ _ _ _ hA fun v H hA => ?_
  refine f_call [.d ((eT (eP3 eI eI eI)) a.1), .d ((eT eI) a.2)] (a.1, a.2) (fun r => []) hA rfl rfl True.intro (fun as h => match as, h with | [], _ => rfl) (fun _ => rfl) (fun r as h => match as, h with | [], _ => rfl) (fun r j z => nomatch z) .nil (hm.bindR.imp (fun r1 hm v H hA => ?_) fun _ q => q)
  refine f_setgo hA (fun j z => nomatch z) rfl hm ?_
  change BJ K _ [some (.dat ((eT (eP3 eI eI eI)) a.1)), some (.dat ((eT eI) a.2)), some (.dat ((eT (eP3 eI eI eI)) r1)), none, none, none] _ _ _ _ _
  refine fun g σ H D hA hm => x_asg ?_
  refine x_call1 ?_
  refine (ev_var rfl) _ _ _ _ _ hA fun v H hA => ?_
  refine f_call [.d ((eT (eP3 eI eI eI)) r1)] r1 (fun r => []) hA rfl rfl True.intro (fun as h => match as, h with | [], _ => rfl) (fun _ => rfl) (fun r as h => match as, h with | [], _ => rfl) (fun r j z => nomatch z) .nil (hm.bindR.imp (fun r2 hm v H hA => ?_) fun _ q => q)
  refine f_setgo hA (fun j z => nomatch z) rfl hm ?_
  change BJ K _ [some (.dat ((eT (eP3 eI eI eI)) a.1)), some (.dat ((eT eI) a.2)), some (.dat ((eT (eP3 eI eI eI)) r1)), some (.dat (eD r2)), none, none] _ _ _ _ _
  refine fun g σ H D hA hm => x_ifS ?_
  refine x_test ?_
  refine x_op ?_
  refine x_call1 ?_
  refine (ev_var rfl) _ _ _ _ _ hA fun v H hA => ?_
  replace hA := hA.box (Bx.hd (x := r1) (bx_t (bx_p3 bx_i bx_i bx_i)))
  refine f_call [.d (eD ((dT (dP3 PyData.int PyData.int PyData.int)) r1))] ((dT (dP3 PyData.int PyData.int PyData.int)) r1) (fun r => []) hA rfl rfl True.intro (fun as h => match as, h with | [], _ => rfl) (fun _ => rfl) (fun r as h => match as, h with | [], _ => rfl) (fun r j z => nomatch z) .nil (hm.bindR.imp (fun r3 hm v H hA => ?_) fun _ q => q)
  refine x_op ?_
  refine (ev_var rfl) _ _ _ _ _ hA fun v H hA => ?_
  refine ev_int _ _ _ _ _ hA fun v H hA => ?_
  refine f_o2m o2_atD hA hm fun t4 v H hA hm => ?_
  refine f_o2m (o2_neDM (a := ((dO (dP2 PyData.int PyData.int)) r3)) (b := t4) (.dat (bx_o (bx_p2 bx_i bx_i))) dpt_d) hA hm fun t5 v H hA hm => ?_
  refine f_tst (P := fun c H1 => _) hA fun hA => ?_
  refine f_ifS hm (fun hm => ?_) (fun hm => ?_)
  ·
    refine bj_go hA hm ?_
    change BJ K _ [some (.dat ((eT (eP3 eI eI eI)) a.1)), some (.dat ((eT eI) a.2)), some (.dat ((eT (eP3 eI eI eI)) r1)), some (.dat (eD r2)), none, none] _ _ _ _ _
    refine bj_assoc ?_
    refine fun g σ H D hA hm => x_ret ?_
    refine ev_bl _ _ _ _ _ hA fun v H hA => ?_
    exact hm v H _ (hA.weak1 (.d (.d .nil)) fun j z => nomatch z)
  ·
    refine bj_go hA hm ?_
    change BJ K _ [some (.dat ((eT (eP3 eI eI eI)) a.1)), some (.dat ((eT eI) a.2)), some (.dat ((eT (eP3 eI eI eI)) r1)), some (.dat (eD r2)), none, none] _ _ _ _ _
    refine bj_pass ?_
    refine fun g σ H D hA hm => x_ifS ?_
    refine x_test ?_
    refine x_op ?_
    refine x_op ?_
    refine (ev_var rfl) _ _ _ _ _ hA fun v H hA => ?_
    refine ev_int _ _ _ _ _ hA fun v H hA => ?_
    refine f_o2m o2_atD hA hm fun t6 v H hA hm => ?_
    refine ev_non _ _ _ _ _ hA fun v H hA => ?_
    refine o2_notND _ _ _ _ _ _ _ hA fun v H hA => ?_
    refine f_tst (P := fun c H1 => _) hA fun hA => ?_
    refine f_ifS hm (fun hm => ?_) (fun hm => ?_)
    ·
      refine bj_go hA hm ?_
      change BJ K _ [some (.dat ((eT (eP3 eI eI eI)) a.1)), some (.dat ((eT eI) a.2)), some (.dat ((eT (eP3 eI eI eI)) r1)), some (.dat (eD r2)), none, none] _ _ _ _ _
      refine bj_assoc ?_
      refine fun g σ H D hA hm => x_ret ?_
      refine ev_bl _ _ _ _ _ hA fun v H hA => ?_
      exact hm v H _ (hA.weak1 (.d (.d .nil)) fun j z => nomatch z)
    ·
      refine bj_go hA hm ?_
      change BJ K _ [some (.dat ((eT (eP3 eI eI eI)) a.1)), some (.dat ((eT eI) a.2)), some (.dat ((eT (eP3 eI eI eI)) r1)), some (.dat (eD r2)), none, none] _ _ _ _ _
      refine bj_pass ?_
      refine fun g σ H D hA hm => ?_
      refine x_forR1 ?_
      refine (ev_cb1 (ev_var rfl) (o1_lenT a.1 (eP3 eI eI eI) .t)) _ _ _ _ _ hA fun v H hA => ?_
      refine f_rng1 (b := ((a.1).length : Int)) hA hm fun hm => f_for (e := eI) (fun (s8 : Unit) => [none, none, some (.dat ((eT (eP3 eI eI eI)) r1)), some (.dat (eD r2)), none, none]) (s0 := ()) (.d (.d (.s (.s (.d (.d .nil)))))) hm (hb_of (e := eI) (js := [4]) (ps := fun b9 => [eI b9]) (fun b => tj_name) (hjl (n := 6) (fun s => rfl) (by decide)) (fun s8 b9 => ?_)) (fun s8 => ?_)
      ·
        change BJ K _ [none, none, some (.dat ((eT (eP3 eI eI eI)) r1)), some (.dat (eD r2)), some (.dat (eI b9)), none] _ _ _ _ _
        refine fun g σ H D hA hm => x_asg ?_
        refine x_call3 ?_
        refine (ev_var rfl) _ _ _ _ _ hA fun v H hA => ?_
        replace hA := hA.box (Bx.hd (x := r1) (bx_t (bx_p3 bx_i bx_i bx_i)))
        refine (ev_var rfl) _ _ _ _ _ hA fun v H hA => ?_
        refine ev_int _ _ _ _ _ hA fun v H hA => ?_
        refine f_call [.d (eD ((dT (dP3 PyData.int PyData.int PyData.int)) r1)), .d (eI b9), .d (eI (3 : Int))] (((dT (dP3 PyData.int PyData.int PyData.int)) r1), b9, (3 : Int)) (fun r => []) hA rfl rfl True.intro (fun as h => match as, h with | [], _ => rfl) (fun _ => rfl) (fun r as h => match as, h with | [], _ => rfl) (fun r j z => nomatch z) .nil (hm.bindR.imp (fun r10 hm v H hA => ?_) fun _ q => q)
        refine f_setgo hA (fun j z => nomatch z) rfl hm ?_
        change BJ K _ [none, none, some (.dat ((eT (eP3 eI eI eI)) r1)), some (.dat (eD r2)), some (.dat (eI b9)), some (.dat ((eT eI) r10))] _ _ _ _ _
        refine fun g σ H D hA hm => x_ifS ?_
        refine f_joinT (fun (s : Bool) => [none, none, some (.dat ((eT (eP3 eI eI eI)) r1)), some (.dat (eD r2)), some (.dat (eI b9)), some (.dat ((eT eI) r10))]) (fun s => s) hA hm (fun hm => ?_) (fun j11 H hA hm => ?_)
        ·
          refine x_orT ?_
          refine (evb_not (evb_B (ev_isi (d := ((dT PyData.int) r10)) .tuple (ev_var rfl) (.dat (bx_t bx_i))))) _ _ _ _ _ hA fun H hA => ?_
          refine f_pick hm (fun hm => ?_) (fun hm => ?_)
          ·
            exact hm H hA
          ·
            refine x_orT ?_
            refine (evb_test (ev_op (ev_cb1 (ev_var rfl) (o1_lenT r10 eI .t)) ev_int o2_neI)) _ _ _ _ _ hA fun H hA => ?_
            refine f_pick hm (fun hm => ?_) (fun hm => ?_)
            ·
              exact hm H hA
            ·
              refine x_test ?_
              refine x_op ?_
              refine x_cb1 ?_
              refine (ev_var rfl) _ _ _ _ _ hA fun v H hA => ?_
              refine f_o1m (o1_maxT (xs := r10)) hA hm fun t12 v H hA hm => ?_
              refine x_op ?_
              refine x_op ?_
              refine (ev_var rfl) _ _ _ _ _ hA fun v H hA => ?_
              refine ev_int _ _ _ _ _ hA fun v H hA => ?_
              refine f_o2m o2_atD hA hm fun t13 v H hA hm => ?_
              refine (ev_var rfl) _ _ _ _ _ hA fun v H hA => ?_
              refine f_o2m o2_atD hA hm fun t14 v H hA hm => ?_
              refine f_int hA hm fun t15 hA hm => ?_
              refine o2_c0 _ _ _ _ _ _ _ hA fun v H hA => ?_
              refine f_tst (P := fun c H1 => _) hA fun hA => ?_
              exact hm H hA
        ·
          replace hA : At K g [none, none, some (.dat ((eT (eP3 eI eI eI)) r1)), some (.dat (eD r2)), some (.dat (eI b9)), some (.dat ((eT eI) r10))] _ _ _ := hA
          refine f_ifS hm (fun hm => ?_) (fun hm => ?_)
          ·
            refine bj_go hA hm ?_
            change BJ K _ [none, none, some (.dat ((eT (eP3 eI eI eI)) r1)), some (.dat (eD r2)), some (.dat (eI b9)), some (.dat ((eT eI) r10))] _ _ _ _ _
            refine bj_assoc ?_
            refine fun g σ H D hA hm => x_ret ?_
            refine ev_bl _ _ _ _ _ hA fun v H hA => ?_
            exact hm v H _ (hA.weak1 (.d (.d .nil)) fun j z => nomatch z)
          ·
            refine bj_go hA hm ?_
            change BJ K _ [none, none, some (.dat ((eT (eP3 eI eI eI)) r1)), some (.dat (eD r2)), some (.dat (eI b9)), some (.dat ((eT eI) r10))] _ _ _ _ _
            refine bj_pass ?_
            exact bj_nx (a := ()) (.d (.d (.s (.s (.d (.d .nil))))))
      ·
        change BJ K _ [none, none, some (.dat ((eT (eP3 eI eI eI)) r1)), some (.dat (eD r2)), none, none] _ _ _ _ _
        refine fun g σ H D hA hm => x_ret ?_
        refine ev_bl _ _ _ _ _ hA fun v H hA => ?_
        exact hm v H _ (hA.weak1 (.d (.d .nil)) fun j z => nomatch z)
theorem ok_law (T : Txt K mg Z) : FnOk P w K mg base (L2.CX P w) 9 Z.f_law Z.d_law ["script"] (Spec K Z.ec 1 pre_law f_law post_law ret_law) := by
  refine fn_ok T.d_law.F sc_law rfl m_law fun cdv A outer s H E hr => ?_
  refine ⟨_, (pss_cons (ps_set (i := 1) sc_law.nd rfl (Or.inr rfl) (pe_callS (ok_law_numbers T) (hr.mono (by decide)) (by rfl) T.d_law_numbers.g T.d_law_numbers.F.kp T.d_law_numbers.b (fun σ => passAt (takes_of rfl rfl rfl rfl) σ) (pa_cons (pv 0) pa_nil)))
  (pss_cons (ps_set (i := 2) sc_law.nd rfl (Or.inl rfl) (pe_callS (ok_law_draw T) (hr.mono (by decide)) (by rfl) T.d_law_draw.g T.d_law_draw.F.kp T.d_law_draw.b (fun σ => passAt (takes_of rfl rfl rfl rfl) σ) (pa_cons (pv 1) (pa_cons pe_int pa_nil))))
  (pss_cons (ps_if (pt_cmpR op_eq (pv 2) pe_int (nomark _)) (pss_cons (ps_set (i := 10) sc_law.nd rfl (Or.inl rfl) (pe_ix (r := rIxL K) ix_list (pe_lst (pa_cons pe_int (pa_cons pe_int pa_nil))) (pe_callS (ok_law_draw T) (hr.mono (by decide)) (by rfl) T.d_law_draw.g T.d_law_draw.F.kp T.d_law_draw.b (fun σ => passAt (takes_of rfl rfl rfl rfl) σ) (pa_cons (pv 1) (pa_cons pe_int pa_nil))) (fun _ _ => rfl)))
  (pss_cons (ps_set (i := 3) sc_law.nd rfl (Or.inl rfl) (pe_tup (pa_cons (pe_tup (pa_cons (pv 10) (pa_cons pe_int (pa_cons pe_int pa_nil)))) (pa_cons (pe_tup (pa_cons pe_int (pa_cons pe_int (pa_cons pe_int pa_nil)))) (pa_cons (pe_tup (pa_cons pe_int (pa_cons pe_int (pa_cons pe_int pa_nil)))) (pa_cons (pe_tup (pa_cons pe_int (pa_cons pe_int (pa_cons pe_int pa_nil)))) (pa_cons (pe_tup (pa_cons (pe_op op_add pe_int (pe_callS (ok_law_draw T) (hr.mono (by decide)) (by rfl) T.d_law_draw.g T.d_law_draw.F.kp T.d_law_draw.b (fun σ => passAt (takes_of rfl rfl rfl rfl) σ) (pa_cons (pv 1) (pa_cons pe_int pa_nil)))) (pa_cons pe_int (pa_cons pe_int pa_nil)))) pa_nil)))))))
  (pss_cons (ps_if (pt_cmpR op_ne (pe_callS (ok_never_misses T) (hr.mono (by decide)) (by rfl) T.d_never_misses.g T.d_never_misses.F.kp T.d_never_misses.b (fun σ => passAt (takes_of rfl rfl rfl rfl) σ) (pa_cons (pv 3) pa_nil)) (pe_cmpR op_le (pe_op op_add (pe_op op_add (pv 10) pe_int) (pe_ix (r := rIxT K) ix_tup (pe_ix (r := rIxT K) ix_tup (pv 3) pe_int (fun _ _ => rfl)) pe_int (fun _ _ => rfl))) pe_int (nomark _)) (nomark _)) (pss_cons (ps_ret pe_bl)
  pss_nil) pss_nil)
  (pss_cons (ps_ret (pe_and (pe_callS (ok_law_rows_fit T) (hr.mono (by decide)) (by rfl) T.d_law_rows_fit.g T.d_law_rows_fit.F.kp T.d_law_rows_fit.b (fun σ => passAt (takes_of rfl rfl rfl rfl) σ) (pa_cons (pv 3) pa_nil)) (pe_one (pe_callS (ok_law_refusals_fit T) (hr.mono (by decide)) (by rfl) T.d_law_refusals_fit.g T.d_law_refusals_fit.F.kp T.d_law_refusals_fit.b (fun σ => passAt (takes_of rfl rfl rfl rfl) σ) (pa_cons (pv 1) (pa_cons (pv 3) pa_nil))))))
  pss_nil)))) pss_nil)
  (pss_cons (ps_set (i := 3) sc_law.nd rfl (Or.inl rfl) (pe_lst pa_nil))
  (pss_cons (ps_set (i := 4) sc_law.nd rfl (Or.inl rfl) (pe_ix (r := rIxL K) ix_list (pe_lst (pa_cons pe_int (pa_cons pe_int (pa_cons pe_int (pa_cons pe_int (pa_cons pe_int (pa_cons pe_int (pa_cons pe_int pa_nil)))))))) (pv 2) (fun _ _ => rfl)))
  (pss_cons (ps_for (passes_of rfl) rfl (pi_range1 (by rfl) T.z_range (pa_cons (pv 4) pa_nil)) (pg_name (i := 5) sc_law.nd rfl (Or.inl rfl)) (pss_cons (ps_set (i := 11) sc_law.nd rfl (Or.inl rfl) (pe_op op_add pe_int (pe_op op_mod (pe_callTy c_int (by rfl) T.z_int (by decide +kernel) (pa_cons (pe_callS (ok_law_draw T) (hr.mono (by decide)) (by rfl) T.d_law_draw.g T.d_law_draw.F.kp T.d_law_draw.b (fun σ => passAt (takes_of rfl rfl rfl rfl) σ) (pa_cons (pv 1) (pa_cons pe_int pa_nil))) pa_nil)) (pe_ix (r := rIxL K) ix_list (pe_lst (pa_cons pe_int (pa_cons pe_int pa_nil))) (pe_op op_sub (pv 4) pe_int) (fun _ _ => rfl)))))
  (pss_cons (ps_expr (pe_bm PySem.F.plainAttrs_list PySem.F.slot_list_append PySem.F.type_list_append mt_append (pv 3) (pa_cons (pe_tup (pa_cons (pe_op op_add pe_int (pe_op op_mod (pe_callTy c_int (by rfl) T.z_int (by decide +kernel) (pa_cons (pe_callS (ok_law_draw T) (hr.mono (by decide)) (by rfl) T.d_law_draw.g T.d_law_draw.F.kp T.d_law_draw.b (fun σ => passAt (takes_of rfl rfl rfl rfl) σ) (pa_cons (pv 1) (pa_cons pe_int pa_nil))) pa_nil)) (pe_callB c_min2 (by rfl) T.z_min (by decide +kernel) (pa_cons pe_int (pa_cons (pv 11) pa_nil))))) (pa_cons (pv 11) (pa_cons pe_int pa_nil)))) pa_nil)))
  pss_nil)))
  (pss_cons (ps_set (i := 3) sc_law.nd rfl (Or.inl rfl) (pe_callTy (r := rTuple K) c_tuple (by rfl) T.z_tuple (by decide +kernel) (pa_cons (pv 3) pa_nil)))
  (pss_cons (ps_set (i := 6) sc_law.nd rfl (Or.inl rfl) (pe_callTy (r := rTuple K) c_tuple (by rfl) T.z_tuple (by decide +kernel) (pa_cons (pe_lc (own := [("job", 13)]) (g := gName 13) rfl sc_law.nd (pi_tup (pv 3)) (blkOk_by (N := ["script", "numbers", "word", "jobs", "many", "t", "asked", "missed", "longest", "offsets", "first", "period", "told", "job"]) (sc := defScope st_law) (by decide +kernel)) (fun _ _ _ _ _ => (pg_name (i := 13) sc_law.nd rfl (Or.inl rfl))) (fun _ _ _ _ _ => pts_nil) (fun _ _ _ _ _ => (pe_callS (ok_law_draw T) (hr.mono (by decide)) (by rfl) T.d_law_draw.g T.d_law_draw.F.kp T.d_law_draw.b (fun σ => passAt takes0 σ) (pa_cons (pv 1) (pa_cons (pe_ix (r := rIxT K) ix_tup (pv 13) pe_int (fun _ _ => rfl)) pa_nil))))) pa_nil)))
  (pss_cons (ps_if (pw_or (pt_not (pt_val (pe_callS (ok_law_rows_fit T) (hr.mono (by decide)) (by rfl) T.d_law_rows_fit.g T.d_law_rows_fit.F.kp T.d_law_rows_fit.b (fun σ => passAt (takes_of rfl rfl rfl rfl) σ) (pa_cons (pv 3) pa_nil)))) (pw_or (pt_not (pt_val (pe_callS (ok_law_rows_fit T) (hr.mono (by decide)) (by rfl) T.d_law_rows_fit.g T.d_law_rows_fit.F.kp T.d_law_rows_fit.b (fun σ => passAt (takes_of rfl rfl rfl rfl) σ) (pa_cons (pe_callS (ok_law_at T) (hr.mono (by decide)) (by rfl) T.d_law_at.g T.d_law_at.F.kp T.d_law_at.b (fun σ => passAt (takes_of rfl rfl rfl rfl) σ) (pa_cons (pv 3) (pa_cons (pv 6) pa_nil))) pa_nil)))) (pw_or1 (pt_not (pt_val (pe_callS (ok_law_refusals_fit T) (hr.mono (by decide)) (by rfl) T.d_law_refusals_fit.g T.d_law_refusals_fit.F.kp T.d_law_refusals_fit.b (fun σ => passAt (takes_of rfl rfl rfl rfl) σ) (pa_cons (pv 1) (pa_cons (pv 3) pa_nil)))))))).pt (pss_cons (ps_ret pe_bl)
  pss_nil) pss_nil)
  (pss_cons (ps_set (i := 7) sc_law.nd rfl (Or.inl rfl) pe_bl)
  (pss_cons (ps_setLc (i := 8) (own := [("job", 13)]) (g := gName 13) rfl sc_law.nd rfl rfl (sw_true rfl rfl rfl (by decide +kernel)) (pi_tup (pv 3)) (blkOk_by (N := ["script", "numbers", "word", "jobs", "many", "t", "asked", "missed", "longest", "offsets", "first", "period", "told", "job"]) (sc := defScope st_law) (by decide +kernel)) (fun _ _ _ _ _ => (pg_name (i := 13) sc_law.nd rfl (Or.inl rfl))) (fun _ _ _ _ _ => pts_nil) (fun _ _ _ _ _ => pe_int))
  (pss_cons (ps_for (passes_of rfl) rfl (pi_list (pe_callS (ok_law_offsets T) (hr.mono (by decide)) (by rfl) T.d_law_offsets.g T.d_law_offsets.F.kp T.d_law_offsets.b (fun σ => passAt (takes_of rfl rfl rfl rfl) σ) (pa_cons (pv 3) pa_nil))) (pg_name (i := 9) sc_law.nd rfl (Or.inl rfl)) (pss_cons (ps_set (i := 12) sc_law.nd rfl (Or.inl rfl) (pe_callS (ok_law_times T) (hr.mono (by decide)) (by rfl) T.d_law_times.g T.d_law_times.F.kp T.d_law_times.b (fun σ => passAt (takes_of rfl rfl rfl rfl) σ) (pa_cons (pe_callS (ok_law_at T) (hr.mono (by decide)) (by rfl) T.d_law_at.g T.d_law_at.F.kp T.d_law_at.b (fun σ => passAt (takes_of rfl rfl rfl rfl) σ) (pa_cons (pv 3) (pa_cons (pv 9) pa_nil))) pa_nil)))
  (pss_cons (ps_if (pt_cmpR p_notN (pe_ix (r := rIxQ K) ix_q (pv 12) pe_int (fun _ _ => rfl)) pe_non (nomark _)) (pss_cons (ps_set (i := 7) sc_law.nd rfl (Or.inl rfl) pe_bl)
  pss_nil) pss_nil)
  (pss_cons (ps_for (passes_of rfl) rfl (pi_range1 (by rfl) T.z_range (pa_cons (pv 4) pa_nil)) (pg_name (i := 5) sc_law.nd rfl (Or.inl rfl)) (pss_cons (ps_asg (pe_callB c_max2 (by rfl) T.z_max (by decide +kernel) (pa_cons (pe_ix (r := rIxL K) ix_list (pv 8) (pv 5) (fun _ _ => rfl)) (pa_cons (pe_ix (r := rIxQ K) ix_q (pe_ix (r := rIxQ K) ix_q (pv 12) pe_int (fun _ _ => rfl)) (pv 5) (fun _ _ => rfl)) pa_nil))) (pg_sub (pv 8) (pv 5) set_list))
  pss_nil))
  pss_nil))))
  (pss_cons (ps_if (pt_cmpR op_eq (pe_callS (ok_never_misses T) (hr.mono (by decide)) (by rfl) T.d_never_misses.g T.d_never_misses.F.kp T.d_never_misses.b (fun σ => passAt (takes_of rfl rfl rfl rfl) σ) (pa_cons (pv 3) pa_nil)) (pv 7) (nomark _)) (pss_cons (ps_ret pe_bl)
  pss_nil) pss_nil)
  (pss_cons (ps_if (pt_not (pt_val (pv 7))) (pss_cons (ps_for (passes_of rfl) rfl (pi_range1 (by rfl) T.z_range (pa_cons (pv 4) pa_nil)) (pg_name (i := 5) sc_law.nd rfl (Or.inl rfl)) (pss_cons (ps_if (pw_or (pt_cmpR (r := rNeD K) (op_neD hr.units) (pe_callS (ok_response T) (hr.mono (by decide)) (by rfl) T.d_response.g T.d_response.F.kp T.d_response.b (fun σ => passAt (takes_of rfl rfl rfl rfl) σ) (pa_cons (pv 3) (pa_cons (pv 5) pa_nil))) (pe_ix (r := rIxL K) ix_list (pv 8) (pv 5) (fun _ _ => rfl)) (nomark _)) (pw_or1 (pt_cmpR (r := rNeD K) (op_neD hr.units) (pe_callS (ok_job_ends T) (hr.mono (by decide)) (by rfl) T.d_job_ends.g T.d_job_ends.F.kp T.d_job_ends.b (fun σ => passAt (takes_of rfl rfl rfl rfl) σ) (pa_cons (pv 3) (pa_cons (pv 5) (pa_cons pe_int pa_nil)))) (pe_tup (pa_cons (pe_ix (r := rIxL K) ix_list (pv 8) (pv 5) (fun _ _ => rfl)) pa_nil)) (nomark _)))).pt (pss_cons (ps_ret pe_bl)
  pss_nil) pss_nil)
  pss_nil))
  pss_nil) pss_nil)
  (pss_cons (ps_ret (pe_callS (ok_law_drawn_fits T) (hr.mono (by decide)) (by rfl) T.d_law_drawn_fits.g T.d_law_drawn_fits.F.kp T.d_law_drawn_fits.b (fun σ => passAt (takes_of rfl rfl rfl rfl) σ) (pa_cons (pv 3) (pa_cons (pv 6) pa_nil))))
  pss_nil))))))))))))))), ?_⟩
  intro a as _
  change BJ K _ [some (.dat ((eL eI) a)), none, none, none, none, none, none, none, none, none, none, none, none, none] _ _ _ _ _
  refine fun g σ H D hA hm => x_asg ?_
  refine x_call1 ?_
  refine (ev_var rfl) _ _ _ _ _ hA fun v H hA => ?_
  refine f_call [.d ((eL eI) a)] a (fun r => []) hA rfl rfl True.intro (fun as h => match as, h with | [], _ => rfl) (fun _ => rfl) (fun r as h => match as, h with | [], _ => rfl) (fun r j z => nomatch z) .nil (hm.bindR.imp (fun r1 hm v H hA => ?_) fun _ q => q)
  refine f_setgo hA (fun j z => nomatch z) rfl hm ?_
  change BJ K _ [some (.dat ((eL eI) a)), some (.own none (.lst (List.map eI r1))), none, none, none, none, none, none, none, none, none, none, none, none] _ _ _ _ _
  refine fun g σ H D hA hm => x_asg ?_
  refine x_call2 ?_
  refine (ev_own rfl) _ _ _ _ _ hA fun v H hA => ?_
  refine ev_int _ _ _ _ _ hA fun v H hA => ?_
  refine f_call [.o 1 none (.lst (List.map eI r1)), .d (eI (8 : Int))] (r1, (8 : Int)) (fun r => [.lst (List.map eI r.2)]) hA rfl rfl ⟨rfl, True.intro⟩ (fun as h => match as, h with | [_], _ => rfl) (fun _ => rfl) (fun r as h => match as, h with | [_], _ => rfl) (fun r j z => nomatch z) .nil (hm.bindR.imp (fun r2 hm v H hA => ?_) fun _ q => q)
  replace hA : At K g [some (.dat ((eL eI) a)), some (.own none (.lst (List.map eI r2.2))), none, none, none, none, none, none, none, none, none, none, none, none] _ _ _ := hA
  refine f_setgo hA (fun j z => nomatch z) rfl hm ?_
  change BJ K _ [some (.dat ((eL eI) a)), some (.own none (.lst (List.map eI r2.2))), some (.dat (eI r2.1)), none, none, none, none, none, none, none, none, none, none, none] _ _ _ _ _
  refine bj_ifL (evb_test (ev_op (ev_var rfl) ev_int o2_eqI)) ?_ ?_
  ·
    refine bj_assoc ?_
    refine fun g σ H D hA hm => x_asg ?_
    refine x_op ?_
    refine (ev_lst [eI (1 : Int), eI (12 : Int)] (ea_cons ev_int (ea_cons ev_int ea_nil))) _ _ _ _ _ hA fun v H hA => ?_
    refine x_call2 ?_
    refine (ev_own rfl) _ _ _ _ _ hA fun v H hA => ?_
    refine ev_int _ _ _ _ _ hA fun v H hA => ?_
    refine f_call [.o 1 none (.lst (List.map eI r2.2)), .d (eI (2 : Int))] (r2.2, (2 : Int)) (fun r => [.lst (List.map eI r.2)]) hA rfl rfl ⟨rfl, True.intro⟩ (fun as h => match as, h with | [_], _ => rfl) (fun _ => rfl) (fun r as h => match as, h with | [_], _ => rfl) (fun r j z => nomatch z) .nil (hm.bindR.imp (fun r3 hm v H hA => ?_) fun _ q => q)
    replace hA : At K g [some (.dat ((eL eI) a)), some (.own none (.lst (List.map eI r3.2))), some (.dat (eI r2.1)), none, none, none, none, none, none, none, none, none, none, none] _ _ _ := hA
    refine f_o2m (o2_idxL (xs := [(1 : Int), (12 : Int)]) (e := eI) .own) hA hm fun t4 v H hA hm => ?_
    refine f_setgo hA (fun j z => nomatch z) rfl hm ?_
    change BJ K _ [some (.dat ((eL eI) a)), some (.own none (.lst (List.map eI r3.2))), some (.dat (eI r2.1)), none, none, none, none, none, none, none, some (.dat (eI t4)), none, none, none] _ _ _ _ _
    refine bj_assoc ?_
    refine fun g σ H D hA hm => x_asg ?_
    refine x_tup ?_
    refine x_cons ?_
    refine (ev_tup [eI t4, eI (24 : Int), eI (0 : Int)] (ea_cons (ev_var rfl) (ea_cons ev_int (ea_cons ev_int ea_nil)))) _ _ _ _ _ hA fun v H hA => ?_
    refine x_cons ?_
    refine (ev_tup [eI (1 : Int), eI (24 : Int), eI (3 : Int)] (ea_cons ev_int (ea_cons ev_int (ea_cons ev_int ea_nil)))) _ _ _ _ _ hA fun v H hA => ?_
    refine x_cons ?_
    refine (ev_tup [eI (1 : Int), eI (24 : Int), eI (0 : Int)] (ea_cons ev_int (ea_cons ev_int (ea_cons ev_int ea_nil)))) _ _ _ _ _ hA fun v H hA => ?_
    refine x_cons ?_
    refine (ev_tup [eI (1 : Int), eI (24 : Int), eI (23 : Int)] (ea_cons ev_int (ea_cons ev_int (ea_cons ev_int ea_nil)))) _ _ _ _ _ hA fun v H hA => ?_
    refine x_cons ?_
    refine x_tup ?_
    refine x_cons ?_
    refine x_op ?_
    refine ev_int _ _ _ _ _ hA fun v H hA => ?_
    refine x_call2 ?_
    refine (ev_own rfl) _ _ _ _ _ hA fun v H hA => ?_
    refine ev_int _ _ _ _ _ hA fun v H hA => ?_
    refine f_call [.o 1 none (.lst (List.map eI r3.2)), .d (eI (12 : Int))] (r3.2, (12 : Int)) (fun r => [.lst (List.map eI r.2)]) hA rfl rfl ⟨rfl, True.intro⟩ (fun as h => match as, h with | [_], _ => rfl) (fun _ => rfl) (fun r as h => match as, h with | [_], _ => rfl) (fun r j z => nomatch z) .nil (hm.bindR.imp (fun r5 hm v H hA => ?_) fun _ q => q)
    replace hA : At K g [some (.dat ((eL eI) a)), some (.own none (.lst (List.map eI r5.2))), some (.dat (eI r2.1)), none, none, none, none, none, none, none, some (.dat (eI t4)), none, none, none] _ _ _ := hA
    refine o2_i0 _ _ _ _ _ _ _ hA fun v H hA => ?_
    refine x_cons ?_
    refine ev_int _ _ _ _ _ hA fun v H hA => ?_
    refine x_cons ?_
    refine ev_int _ _ _ _ _ hA fun v H hA => ?_
    refine x_nil ?_
    refine f_tup (vs := [_, _, _]) [eI ((1 : Int) + r5.1), eI (24 : Int), eI (0 : Int)] hA rfl (Nat.le_of_ble_eq_true rfl) fun v H hA => ?_
    refine x_nil ?_
    refine f_tup (vs := [_, _, _, _, _]) [(eP3 eI eI eI) (t4, (24 : Int), (0 : Int)), (eP3 eI eI eI) ((1 : Int), (24 : Int), (3 : Int)), (eP3 eI eI eI) ((1 : Int), (24 : Int), (0 : Int)), (eP3 eI eI eI) ((1 : Int), (24 : Int), (23 : Int)), (eP3 eI eI eI) (((1 : Int) + r5.1), (24 : Int), (0 : Int))] hA rfl (Nat.le_of_ble_eq_true rfl) fun v H hA => ?_
    refine f_setlt (e := [((t4, (24 : Int), (0 : Int)), ((1 : Int), (24 : Int), (3 : Int)), ((1 : Int), (24 : Int), (0 : Int)), ((1 : Int), (24 : Int), (23 : Int)), (((1 : Int) + r5.1), (24 : Int), (0 : Int))).1, ((t4, (24 : Int), (0 : Int)), ((1 : Int), (24 : Int), (3 : Int)), ((1 : Int), (24 : Int), (0 : Int)), ((1 : Int), (24 : Int), (23 : Int)), (((1 : Int) + r5.1), (24 : Int), (0 : Int))).2.1, ((t4, (24 : Int), (0 : Int)), ((1 : Int), (24 : Int), (3 : Int)), ((1 : Int), (24 : Int), (0 : Int)), ((1 : Int), (24 : Int), (23 : Int)), (((1 : Int) + r5.1), (24 : Int), (0 : Int))).2.2.1, ((t4, (24 : Int), (0 : Int)), ((1 : Int), (24 : Int), (3 : Int)), ((1 : Int), (24 : Int), (0 : Int)), ((1 : Int), (24 : Int), (23 : Int)), (((1 : Int) + r5.1), (24 : Int), (0 : Int))).2.2.2.1, ((t4, (24 : Int), (0 : Int)), ((1 : Int), (24 : Int), (3 : Int)), ((1 : Int), (24 : Int), (0 : Int)), ((1 : Int), (24 : Int), (23 : Int)), (((1 : Int) + r5.1), (24 : Int), (0 : Int))).2.2.2.2]) (fun t => .dat ((eT (eP3 eI eI eI)) t)) hA (fun t j z => nomatch z) rfl hm (fun jobs_6 => ?_)
    change BJ K _ [some (.dat ((eL eI) a)), some (.own none (.lst (List.map eI r5.2))), some (.dat (eI r2.1)), some (.dat ((eT (eP3 eI eI eI)) jobs_6)), none, none, none, none, none, none, some (.dat (eI t4)), none, none, none] _ _ _ _ _
    refine bj_assoc ?_
    refine fun g σ H D hA hm => x_ifS ?_
    refine x_test ?_
    refine x_op ?_
    refine x_call1 ?_
    refine (ev_var rfl) _ _ _ _ _ hA fun v H hA => ?_
    replace hA := hA.box (Bx.hd (x := jobs_6) (bx_t (bx_p3 bx_i bx_i bx_i)))
    refine f_call [.d (eD ((dT (dP3 PyData.int PyData.int PyData.int)) jobs_6))] ((dT (dP3 PyData.int PyData.int PyData.int)) jobs_6) (fun r => []) hA rfl rfl True.intro (fun as h => match as, h with | [], _ => rfl) (fun _ => rfl) (fun r as h => match as, h with | [], _ => rfl) (fun r j z => nomatch z) .nil (hm.bindR.imp (fun r7 hm v H hA => ?_) fun _ q => q)
    refine x_op ?_
    refine x_op ?_
    refine (ev_op (ev_var rfl) ev_int o2_i0) _ _ _ _ _ hA fun v H hA => ?_
    refine x_op ?_
    refine x_op ?_
    refine (ev_var rfl) _ _ _ _ _ hA fun v H hA => ?_
    refine ev_int _ _ _ _ _ hA fun v H hA => ?_
    refine f_o2m (o2_idxT (xs := jobs_6) (e := (eP3 eI eI eI))) hA hm fun t8 v H hA hm => ?_
    refine ev_int _ _ _ _ _ hA fun v H hA => ?_
    refine (o2_ixK (p := eI t8.1) rfl) _ _ _ _ _ _ _ hA fun v H hA => ?_
    refine o2_i0 _ _ _ _ _ _ _ hA fun v H hA => ?_
    refine ev_int _ _ _ _ _ hA fun v H hA => ?_
    refine o2_c0 _ _ _ _ _ _ _ hA fun v H hA => ?_
    refine o2_neB _ _ _ _ _ _ _ hA fun v H hA => ?_
    refine f_tst (P := fun c H1 => _) hA fun hA => ?_
    refine f_ifS hm (fun hm => ?_) (fun hm => ?_)
    ·
      refine bj_go hA hm ?_
      change BJ K _ [some (.dat ((eL eI) a)), some (.own none (.lst (List.map eI r5.2))), some (.dat (eI r2.1)), some (.dat ((eT (eP3 eI eI eI)) jobs_6)), none, none, none, none, none, none, some (.dat (eI t4)), none, none, none] _ _ _ _ _
      refine bj_assoc ?_
      refine fun g σ H D hA hm => x_ret ?_
      refine ev_bl _ _ _ _ _ hA fun v H hA => ?_
      exact hm v H _ (hA.weak1 (.d .nil) fun j z => nomatch z)
    ·
      refine bj_go hA hm ?_
      change BJ K _ [some (.dat ((eL eI) a)), some (.own none (.lst (List.map eI r5.2))), some (.dat (eI r2.1)), some (.dat ((eT (eP3 eI eI eI)) jobs_6)), none, none, none, none, none, none, some (.dat (eI t4)), none, none, none] _ _ _ _ _
      refine bj_pass ?_
      refine bj_assoc ?_
      refine fun g σ H D hA hm => x_ret ?_
      refine f_joinV (fun (s : (Bool × (List Int))) => [some (.dat ((eL eI) a)), some (.own none (.lst (List.map eI s.2))), some (.dat (eI r2.1)), some (.dat ((eT (eP3 eI eI eI)) jobs_6)), none, none, none, none, none, none, some (.dat (eI t4)), none, none, none]) (fun s => .dat (eB s.1)) hA hm (fun hm => ?_) (fun j9 v H hA hm => ?_)
      ·
        refine x_andV ?_
        refine x_call1 ?_
        refine (ev_var rfl) _ _ _ _ _ hA fun v H hA => ?_
        refine f_call [.d ((eT (eP3 eI eI eI)) jobs_6)] jobs_6 (fun r => []) hA rfl rfl True.intro (fun as h => match as, h with | [], _ => rfl) (fun _ => rfl) (fun r as h => match as, h with | [], _ => rfl) (fun r j z => nomatch z) .nil (hm.bindR.imp (fun r10 hm v H hA => ?_) fun _ q => q)
        refine f_tst (P := fun c H1 => _) hA fun hA => ?_
        refine f_pick hm (fun hm => ?_) (fun hm => ?_)
        ·
          refine x_call2 ?_
          refine (ev_own rfl) _ _ _ _ _ hA fun v H hA => ?_
          refine (ev_var rfl) _ _ _ _ _ hA fun v H hA => ?_
          refine f_call [.o 1 none (.lst (List.map eI r5.2)), .d ((eT (eP3 eI eI eI)) jobs_6)] (r5.2, jobs_6) (fun r => [.lst (List.map eI r.2)]) hA rfl rfl ⟨rfl, True.intro⟩ (fun as h => match as, h with | [_], _ => rfl) (fun _ => rfl) (fun r as h => match as, h with | [_], _ => rfl) (fun r j z => nomatch z) .nil (hm.bindR.imp (fun r11 hm v H hA => ?_) fun _ q => q)
          replace hA : At K g [some (.dat ((eL eI) a)), some (.own none (.lst (List.map eI r11.2))), some (.dat (eI r2.1)), some (.dat ((eT (eP3 eI eI eI)) jobs_6)), none, none, none, none, none, none, some (.dat (eI t4)), none, none, none] _ _ _ := hA
          exact hm v H hA
        ·
          exact hm _ H (hA.scal fun _ => rfl)
      ·
        replace hA : At K g [some (.dat ((eL eI) a)), some (.own none (.lst (List.map eI j9.2))), some (.dat (eI r2.1)), some (.dat ((eT (eP3 eI eI eI)) jobs_6)), none, none, none, none, none, none, some (.dat (eI t4)), none, none, none] _ _ _ := hA
        exact hm v H _ (hA.weak1 (.d .nil) fun j z => nomatch z)
  ·
    refine bj_pass ?_
    refine fun g σ H D hA hm => x_asg ?_
    refine (ev_lst [] ea_nil) _ _ _ _ _ hA fun v H hA => ?_
    refine f_setlt (e := []) (fun t => .own none (.lst (List.map (eP3 eI eI eI) t))) hA (fun t j z => nomatch z) rfl hm (fun jobs_12 => ?_)
    change BJ K _ [some (.dat ((eL eI) a)), some (.own none (.lst (List.map eI r2.2))), some (.dat (eI r2.1)), some (.own none (.lst (List.map (eP3 eI eI eI) jobs_12))), none, none, none, none, none, none, none, none, none, none] _ _ _ _ _
    refine fun g σ H D hA hm => x_asg ?_
    refine x_op ?_
    refine (ev_lst [eI (2 : Int), eI (3 : Int), eI (2 : Int), eI (3 : Int), eI (2 : Int), eI (3 : Int), eI (3 : Int)] (ea_cons ev_int (ea_cons ev_int (ea_cons ev_int (ea_cons ev_int (ea_cons ev_int (ea_cons ev_int (ea_cons ev_int ea_nil)))))))) _ _ _ _ _ hA fun v H hA => ?_
    refine (ev_var rfl) _ _ _ _ _ hA fun v H hA => ?_
    refine f_o2m (o2_idxL (xs := [(2 : Int), (3 : Int), (2 : Int), (3 : Int), (2 : Int), (3 : Int), (3 : Int)]) (e := eI) .own) hA hm fun t13 v H hA hm => ?_
    refine f_setgo hA (fun j z => nomatch z) rfl hm ?_
    change BJ K _ [some (.dat ((eL eI) a)), some (.own none (.lst (List.map eI r2.2))), some (.dat (eI r2.1)), some (.own none (.lst (List.map (eP3 eI eI eI) jobs_12))), some (.dat (eI t13)), none, none, none, none, none, none, none, none, none] _ _ _ _ _
    refine fun g σ H D hA hm => ?_
    refine x_forR1 ?_
    refine (ev_var rfl) _ _ _ _ _ hA fun v H hA => ?_
    refine f_rng1 (b := t13) hA hm fun hm => f_for (e := eI) (fun (s15 : ((List Int) × (List (Int × Int × Int)))) => [none, some (.own none (.lst (List.map eI s15.1))), none, some (.own none (.lst (List.map (eP3 eI eI eI) s15.2))), some (.dat (eI t13)), none, none, none, none, none, none, none, none, none]) (s0 := (r2.2, jobs_12)) (.d (.s (.d (.s (.s (.d (.d (.d (.d (.d (.d (.d (.d (.d .nil)))))))))))))) hm (hb_of (e := eI) (js := [5]) (ps := fun b16 => [eI b16]) (fun b => tj_name) (hjl (n := 14) (fun s => rfl) (by decide)) (fun s15 b16 => ?_)) (fun s15 => ?_)
    ·
      change BJ K _ [none, some (.own none (.lst (List.map eI s15.1))), none, some (.own none (.lst (List.map (eP3 eI eI eI) s15.2))), some (.dat (eI t13)), some (.dat (eI b16)), none, none, none, none, none, none, none, none] _ _ _ _ _
      refine fun g σ H D hA hm => x_asg ?_
      refine x_op ?_
      refine ev_int _ _ _ _ _ hA fun v H hA => ?_
      refine x_op ?_
      refine x_cb1 ?_
      refine x_call2 ?_
      refine (ev_own rfl) _ _ _ _ _ hA fun v H hA => ?_
      refine ev_int _ _ _ _ _ hA fun v H hA => ?_
      refine f_call [.o 1 none (.lst (List.map eI s15.1)), .d (eI (12 : Int))] (s15.1, (12 : Int)) (fun r => [.lst (List.map eI r.2)]) hA rfl rfl ⟨rfl, True.intro⟩ (fun as h => match as, h with | [_], _ => rfl) (fun _ => rfl) (fun r as h => match as, h with | [_], _ => rfl) (fun r j z => nomatch z) .nil (hm.bindR.imp (fun r17 hm v H hA => ?_) fun _ q => q)
      replace hA : At K g [none, some (.own none (.lst (List.map eI r17.2))), none, some (.own none (.lst (List.map (eP3 eI eI eI) s15.2))), some (.dat (eI t13)), some (.dat (eI b16)), none, none, none, none, none, none, none, none] _ _ _ := hA
      refine o1_int _ _ _ _ _ _ hA fun v H hA => ?_
      refine x_op ?_
      refine (ev_lst [eI (6 : Int), eI (4 : Int)] (ea_cons ev_int (ea_cons ev_int ea_nil))) _ _ _ _ _ hA fun v H hA => ?_
      refine (ev_op (ev_var rfl) ev_int o2_i0) _ _ _ _ _ hA fun v H hA => ?_
      refine f_o2m (o2_idxL (xs := [(6 : Int), (4 : Int)]) (e := eI) .own) hA hm fun t18 v H hA hm => ?_
      refine f_o2m o2_mod hA hm fun t19 v H hA hm => ?_
      refine o2_i0 _ _ _ _ _ _ _ hA fun v H hA => ?_
      refine f_setlt (e := ((1 : Int) + t19)) (fun t => .dat (eI t)) hA (fun t j z => nomatch z) rfl hm (fun period_20 => ?_)
      change BJ K _ [none, some (.own none (.lst (List.map eI r17.2))), none, some (.own none (.lst (List.map (eP3 eI eI eI) s15.2))), some (.dat (eI t13)), some (.dat (eI b16)), none, none, none, none, none, some (.dat (eI period_20)), none, none] _ _ _ _ _
      refine fun g σ H D hA hm => x_drop ?_
      refine x_app rfl hA fun x H hA => ?_
      refine x_tup ?_
      refine x_cons ?_
      refine x_op ?_
      refine ev_int _ _ _ _ _ hA fun v H hA => ?_
      refine x_op ?_
      refine x_cb1 ?_
      refine x_call2 ?_
      refine (ev_own rfl) _ _ _ _ _ hA fun v H hA => ?_
      refine ev_int _ _ _ _ _ hA fun v H hA => ?_
      refine f_call [.o 1 none (.lst (List.map eI r17.2)), .d (eI (12 : Int))] (r17.2, (12 : Int)) (fun r => [.lst (List.map eI r.2)]) hA rfl rfl ⟨rfl, True.intro⟩ (fun as h => match as, h with | [_], _ => rfl) (fun _ => rfl) (fun r as h => match as, h with | [_], _ => rfl) (fun r j z => nomatch z) .nil (hm.bindR.imp (fun r21 hm v H hA => ?_) fun _ q => q)
      replace hA : At K g [none, some (.own none (.lst (List.map eI r21.2))), none, some (.own none (.lst (List.map (eP3 eI eI eI) s15.2))), some (.dat (eI t13)), some (.dat (eI b16)), none, none, none, none, none, some (.dat (eI period_20)), none, none] _ _ _ := hA
      refine o1_int _ _ _ _ _ _ hA fun v H hA => ?_
      refine (ev_cb2 ev_int (ev_var rfl) o2_min) _ _ _ _ _ hA fun v H hA => ?_
      refine f_o2m o2_mod hA hm fun t22 v H hA hm => ?_
      refine o2_i0 _ _ _ _ _ _ _ hA fun v H hA => ?_
      refine x_cons ?_
      refine (ev_var rfl) _ _ _ _ _ hA fun v H hA => ?_
      refine x_cons ?_
      refine ev_int _ _ _ _ _ hA fun v H hA => ?_
      refine x_nil ?_
      refine f_tup (vs := [_, _, _]) [eI ((1 : Int) + t22), eI period_20, eI (0 : Int)] hA rfl (Nat.le_of_ble_eq_true rfl) fun v H hA => ?_
      refine f_appm (xs := s15.2) (e := (eP3 eI eI eI)) rfl hA hm fun ys23 H hA hm => ?_
      refine bj_go hA hm ?_
      change BJ K _ [none, some (.own none (.lst (List.map eI r21.2))), none, some (.own none (.lst (List.map (eP3 eI eI eI) ys23))), some (.dat (eI t13)), some (.dat (eI b16)), none, none, none, none, none, some (.dat (eI period_20)), none, none] _ _ _ _ _
      exact bj_nx (a := (r21.2, ys23)) (.d (.s (.d (.s (.s (.d (.d (.d (.d (.d (.d (.d (.d (.d .nil))))))))))))))
    ·
      change BJ K _ [none, some (.own none (.lst (List.map eI s15.1))), none, some (.own none (.lst (List.map (eP3 eI eI eI) s15.2))), some (.dat (eI t13)), none, none, none, none, none, none, none, none, none] _ _ _ _ _
      refine fun g σ H D hA hm => x_asg ?_
      refine (ev_cb1 (ev_own rfl) (o1_tuple (.l (.als rfl)))) _ _ _ _ _ hA fun v H hA => ?_
      refine f_setgo hA (fun j z => nomatch z) rfl hm ?_
      change BJ K _ [none, some (.own none (.lst (List.map eI s15.1))), none, some (.dat ((eT (eP3 eI eI eI)) s15.2)), some (.dat (eI t13)), none, none, none, none, none, none, none, none, none] _ _ _ _ _
      refine fun g σ H D hA hm => x_asg ?_
      refine x_cb1 ?_
      refine x_lcT ?_
      refine (ev_var rfl) _ _ _ _ _ hA fun v H hA => ?_
      refine wk_tup (xs := s15.2) (e := (eP3 eI eI eI)) hA (f_lcW (e := (eP3 eI eI eI)) (enc := eI) (js := [13]) (ps := fun b24 => [(eP3 eI eI eI) b24]) (fun (s25 : (List Int)) => [none, some (.own none (.lst (List.map eI s25))), none, some (.dat ((eT (eP3 eI eI eI)) s15.2)), some (.dat (eI t13)), none, none, none, none, none, none, none, none, none]) (s15.1) (fun b => tj_name) (by decide) (hnl fun s => rfl) (hnl fun s => rfl) (by decide) (lj_fwd fun s25 b24 g σ τ H Q Qn hA hm => ?_) hm (fun r26 v H hA hm => ?_))
      ·
        replace hA : At K g [none, some (.own none (.lst (List.map eI s25))), none, some (.dat ((eT (eP3 eI eI eI)) s15.2)), some (.dat (eI t13)), none, none, none, none, none, none, none, none, some (.dat ((eP3 eI eI eI) b24))] _ _ _ := hA
        refine x_yes ?_
        refine x_call2 ?_
        refine (ev_own rfl) _ _ _ _ _ hA fun v H hA => ?_
        refine (ev_op (ev_var rfl) ev_int (o2_ixK (p := eI b24.2.1))) _ _ _ _ _ hA fun v H hA => ?_
        refine f_call [.o 1 none (.lst (List.map eI s25)), .d (eI b24.2.1)] (s25, b24.2.1) (fun r => [.lst (List.map eI r.2)]) hA rfl rfl ⟨rfl, True.intro⟩ (fun as h => match as, h with | [_], _ => rfl) (fun _ => rfl) (fun r as h => match as, h with | [_], _ => rfl) (fun r j z => nomatch z) .nil (hm.bindR.imp (fun r27 hm v H hA => ?_) fun _ q => q.elim)
        replace hA : At K g [none, some (.own none (.lst (List.map eI r27.2))), none, some (.dat ((eT (eP3 eI eI eI)) s15.2)), some (.dat (eI t13)), none, none, none, none, none, none, none, none, some (.dat ((eP3 eI eI eI) b24))] _ _ _ := hA
        exact hm v H hA
      ·
        replace hA : At K g [none, some (.own none (.lst (List.map eI r26.1))), none, some (.dat ((eT (eP3 eI eI eI)) s15.2)), some (.dat (eI t13)), none, none, none, none, none, none, none, none, none] _ _ _ := hA
        refine o1_tuple (.l .own) _ _ _ _ _ _ hA fun v H hA => ?_
        refine f_setgo hA (fun j z => nomatch z) rfl hm ?_
        change BJ K _ [none, some (.own none (.lst (List.map eI r26.1))), none, some (.dat ((eT (eP3 eI eI eI)) s15.2)), some (.dat (eI t13)), none, some (.dat ((eT eI) r26.2)), none, none, none, none, none, none, none] _ _ _ _ _
        refine fun g σ H D hA hm => x_ifS ?_
        refine f_joinT (fun (s : (Bool × (List Int))) => [none, some (.own none (.lst (List.map eI s.2))), none, some (.dat ((eT (eP3 eI eI eI)) s15.2)), some (.dat (eI t13)), none, some (.dat ((eT eI) r26.2)), none, none, none, none, none, none, none]) (fun s => s.1) hA hm (fun hm => ?_) (fun j28 H hA hm => ?_)
        ·
          refine x_orT ?_
          refine x_not ?_
          refine x_B ?_
          refine x_call1 ?_
          refine (ev_var rfl) _ _ _ _ _ hA fun v H hA => ?_
          refine f_call [.d ((eT (eP3 eI eI eI)) s15.2)] s15.2 (fun r => []) hA rfl rfl True.intro (fun as h => match as, h with | [], _ => rfl) (fun _ => rfl) (fun r as h => match as, h with | [], _ => rfl) (fun r j z => nomatch z) .nil (hm.bindR.imp (fun r29 hm v H hA => ?_) fun _ q => q)
          refine f_tst (P := fun c H1 => _) hA fun hA => ?_
          refine f_pick hm (fun hm => ?_) (fun hm => ?_)
          ·
            exact hm H hA
          ·
            refine x_orT ?_
            refine x_not ?_
            refine x_B ?_
            refine x_call1 ?_
            refine x_call2 ?_
            refine (ev_var rfl) _ _ _ _ _ hA fun v H hA => ?_
            refine (ev_var rfl) _ _ _ _ _ hA fun v H hA => ?_
            refine f_call [.d ((eT (eP3 eI eI eI)) s15.2), .d ((eT eI) r26.2)] (s15.2, r26.2) (fun r => []) hA rfl rfl True.intro (fun as h => match as, h with | [], _ => rfl) (fun _ => rfl) (fun r as h => match as, h with | [], _ => rfl) (fun r j z => nomatch z) .nil (hm.bindR.imp (fun r30 hm v H hA => ?_) fun _ q => q)
            refine f_call [.d ((eT (eP3 eI eI eI)) r30)] r30 (fun r => []) hA rfl rfl True.intro (fun as h => match as, h with | [], _ => rfl) (fun _ => rfl) (fun r as h => match as, h with | [], _ => rfl) (fun r j z => nomatch z) .nil (hm.bindR.imp (fun r31 hm v H hA => ?_) fun _ q => q)
            refine f_tst (P := fun c H1 => _) hA fun hA => ?_
            refine f_pick hm (fun hm => ?_) (fun hm => ?_)
            ·
              exact hm H hA
            ·
              refine x_not ?_
              refine x_B ?_
              refine x_call2 ?_
              refine (ev_own rfl) _ _ _ _ _ hA fun v H hA => ?_
              refine (ev_var rfl) _ _ _ _ _ hA fun v H hA => ?_
              refine f_call [.o 1 none (.lst (List.map eI r26.1)), .d ((eT (eP3 eI eI eI)) s15.2)] (r26.1, s15.2) (fun r => [.lst (List.map eI r.2)]) hA rfl rfl ⟨rfl, True.intro⟩ (fun as h => match as, h with | [_], _ => rfl) (fun _ => rfl) (fun r as h => match as, h with | [_], _ => rfl) (fun r j z => nomatch z) .nil (hm.bindR.imp (fun r32 hm v H hA => ?_) fun _ q => q)
              replace hA : At K g [none, some (.own none (.lst (List.map eI r32.2))), none, some (.dat ((eT (eP3 eI eI eI)) s15.2)), some (.dat (eI t13)), none, some (.dat ((eT eI) r26.2)), none, none, none, none, none, none, none] _ _ _ := hA
              refine f_tst (P := fun c H1 => _) hA fun hA => ?_
              exact hm H hA
        ·
          replace hA : At K g [none, some (.own none (.lst (List.map eI j28.2))), none, some (.dat ((eT (eP3 eI eI eI)) s15.2)), some (.dat (eI t13)), none, some (.dat ((eT eI) r26.2)), none, none, none, none, none, none, none] _ _ _ := hA
          refine f_ifS hm (fun hm => ?_) (fun hm => ?_)
          ·
            refine bj_go hA hm ?_
            change BJ K _ [none, some (.own none (.lst (List.map eI j28.2))), none, some (.dat ((eT (eP3 eI eI eI)) s15.2)), some (.dat (eI t13)), none, some (.dat ((eT eI) r26.2)), none, none, none, none, none, none, none] _ _ _ _ _
            refine bj_assoc ?_
            refine fun g σ H D hA hm => x_ret ?_
            refine ev_bl _ _ _ _ _ hA fun v H hA => ?_
            exact hm v H _ (hA.weak1 (.d .nil) fun j z => nomatch z)
          ·
            refine bj_go hA hm ?_
            change BJ K _ [none, some (.own none (.lst (List.map eI j28.2))), none, some (.dat ((eT (eP3 eI eI eI)) s15.2)), some (.dat (eI t13)), none, some (.dat ((eT eI) r26.2)), none, none, none, none, none, none, none] _ _ _ _ _
            refine bj_pass ?_
            refine fun g σ H D hA hm => x_asg ?_
            refine ev_bl _ _ _ _ _ hA fun v H hA => ?_
            refine f_setgo hA (fun j z => nomatch z) rfl hm ?_
            change BJ K _ [none, some (.own none (.lst (List.map eI j28.2))), none, some (.dat ((eT (eP3 eI eI eI)) s15.2)), some (.dat (eI t13)), none, some (.dat ((eT eI) r26.2)), some (.dat (eB false)), none, none, none, none, none, none] _ _ _ _ _
            refine fun g σ H D hA hm => x_asg ?_
            refine x_lcT ?_
            refine (ev_var rfl) _ _ _ _ _ hA fun v H hA => ?_
            refine wk_tup (xs := s15.2) (e := (eP3 eI eI eI)) hA (f_lcW (e := (eP3 eI eI eI)) (enc := eI) (js := [13]) (ps := fun b33 => [(eP3 eI eI eI) b33]) (fun (s34 : Unit) => [none, some (.own none (.lst (List.map eI j28.2))), none, some (.dat ((eT (eP3 eI eI eI)) s15.2)), some (.dat (eI t13)), none, some (.dat ((eT eI) r26.2)), some (.dat (eB false)), none, none, none, none, none, none]) (()) (fun b => tj_name) (by decide) (hnl fun s => rfl) (hnl fun s => rfl) (by decide) (lj_fwd fun s34 b33 g σ τ H Q Qn hA hm => ?_) hm (fun r35 v H hA hm => ?_))
            ·
              replace hA : At K g [none, some (.own none (.lst (List.map eI j28.2))), none, some (.dat ((eT (eP3 eI eI eI)) s15.2)), some (.dat (eI t13)), none, some (.dat ((eT eI) r26.2)), some (.dat (eB false)), none, none, none, none, none, some (.dat ((eP3 eI eI eI) b33))] _ _ _ := hA
              refine x_yes ?_
              refine ev_int _ _ _ _ _ hA fun v H hA => ?_
              exact hm v H hA
            ·
              replace hA : At K g [none, some (.own none (.lst (List.map eI j28.2))), none, some (.dat ((eT (eP3 eI eI eI)) s15.2)), some (.dat (eI t13)), none, some (.dat ((eT eI) r26.2)), some (.dat (eB false)), none, none, none, none, none, none] _ _ _ := hA
              refine f_setgo hA (fun j z => nomatch z) rfl hm ?_
              change BJ K _ [none, some (.own none (.lst (List.map eI j28.2))), none, some (.dat ((eT (eP3 eI eI eI)) s15.2)), some (.dat (eI t13)), none, some (.dat ((eT eI) r26.2)), some (.dat (eB false)), some (.own none (.lst (List.map eI r35.2))), none, none, none, none, none] _ _ _ _ _
              refine fun g σ H D hA hm => ?_
              refine x_forL ?_
              refine x_call1 ?_
              refine (ev_var rfl) _ _ _ _ _ hA fun v H hA => ?_
              refine f_call [.d ((eT (eP3 eI eI eI)) s15.2)] s15.2 (fun r => []) hA rfl rfl True.intro (fun as h => match as, h with | [], _ => rfl) (fun _ => rfl) (fun r as h => match as, h with | [], _ => rfl) (fun r j z => nomatch z) .nil (hm.bindR.imp (fun r36 hm v H hA => ?_) fun _ q => q)
              refine wk_list (xs := r36) (e := (eT eI)) hA (f_for (e := (eT eI)) (fun (s37 : (Bool × (List Int))) => [none, none, none, some (.dat ((eT (eP3 eI eI eI)) s15.2)), some (.dat (eI t13)), none, some (.dat ((eT eI) r26.2)), some (.dat (eB s37.1)), some (.own none (.lst (List.map eI s37.2))), none, none, none, none, none]) (s0 := (false, r35.2)) (.d (.d (.d (.s (.s (.d (.s (.s (.s (.d (.d (.d (.d (.d .nil)))))))))))))) hm (hb_of (e := (eT eI)) (js := [9]) (ps := fun b38 => [(eT eI) b38]) (fun b => tj_name) (hjl (n := 14) (fun s => rfl) (by decide)) (fun s37 b38 => ?_)) (fun s37 => ?_))
              ·
                change BJ K _ [none, none, none, some (.dat ((eT (eP3 eI eI eI)) s15.2)), some (.dat (eI t13)), none, some (.dat ((eT eI) r26.2)), some (.dat (eB s37.1)), some (.own none (.lst (List.map eI s37.2))), some (.dat ((eT eI) b38)), none, none, none, none] _ _ _ _ _
                refine fun g σ H D hA hm => x_asg ?_
                refine x_call1 ?_
                refine x_call2 ?_
                refine (ev_var rfl) _ _ _ _ _ hA fun v H hA => ?_
                refine (ev_var rfl) _ _ _ _ _ hA fun v H hA => ?_
                refine f_call [.d ((eT (eP3 eI eI eI)) s15.2), .d ((eT eI) b38)] (s15.2, b38) (fun r => []) hA rfl rfl True.intro (fun as h => match as, h with | [], _ => rfl) (fun _ => rfl) (fun r as h => match as, h with | [], _ => rfl) (fun r j z => nomatch z) .nil (hm.bindR.imp (fun r39 hm v H hA => ?_) fun _ q => q)
                refine f_call [.d ((eT (eP3 eI eI eI)) r39)] r39 (fun r => []) hA rfl rfl True.intro (fun as h => match as, h with | [], _ => rfl) (fun _ => rfl) (fun r as h => match as, h with | [], _ => rfl) (fun r j z => nomatch z) .nil (hm.bindR.imp (fun r40 hm v H hA => ?_) fun _ q => q)
                refine f_setgo hA (fun j z => nomatch z) rfl hm ?_
                change BJ K _ [none, none, none, some (.dat ((eT (eP3 eI eI eI)) s15.2)), some (.dat (eI t13)), none, some (.dat ((eT eI) r26.2)), some (.dat (eB s37.1)), some (.own none (.lst (List.map eI s37.2))), some (.dat ((eT eI) b38)), none, none, some (.dat (eD r40)), none] _ _ _ _ _
                refine bj_seq (n1 := fun (s41 : Bool) => [none, none, none, some (.dat ((eT (eP3 eI eI eI)) s15.2)), some (.dat (eI t13)), none, some (.dat ((eT eI) r26.2)), some (.dat (eB s41)), some (.own none (.lst (List.map eI s37.2))), none, none, none, some (.dat (eD r40)), none]) ?_ (fun s41 => ?_)
                ·
                  refine fun g σ H D hA hm => x_ifB ?_
                  refine x_test ?_
                  refine x_op ?_
                  refine x_op ?_
                  refine (ev_var rfl) _ _ _ _ _ hA fun v H hA => ?_
                  refine ev_int _ _ _ _ _ hA fun v H hA => ?_
                  refine f_o2m o2_atD hA hm fun t42 v H hA hm => ?_
                  refine ev_non _ _ _ _ _ hA fun v H hA => ?_
                  refine o2_notND _ _ _ _ _ _ _ hA fun v H hA => ?_
                  refine f_tst (P := fun c H1 => _) hA fun hA => ?_
                  refine f_pick hm (fun hm => ?_) (fun hm => ?_)
                  ·
                    refine bj_go hA hm ?_
                    change BJ K _ [none, none, none, some (.dat ((eT (eP3 eI eI eI)) s15.2)), some (.dat (eI t13)), none, some (.dat ((eT eI) r26.2)), some (.dat (eB s37.1)), some (.own none (.lst (List.map eI s37.2))), some (.dat ((eT eI) b38)), none, none, some (.dat (eD r40)), none] _ _ _ _ _
                    refine fun g σ H D hA hm => x_asg ?_
                    refine ev_bl _ _ _ _ _ hA fun v H hA => ?_
                    refine f_setgo hA (fun j z => nomatch z) rfl hm ?_
                    change BJ K _ [none, none, none, some (.dat ((eT (eP3 eI eI eI)) s15.2)), some (.dat (eI t13)), none, some (.dat ((eT eI) r26.2)), some (.dat (eB true)), some (.own none (.lst (List.map eI s37.2))), some (.dat ((eT eI) b38)), none, none, some (.dat (eD r40)), none] _ _ _ _ _
                    exact bj_nx (a := true) (.d (.d (.d (.s (.s (.d (.s (.s (.s (.d (.d (.d (.s (.d .nil))))))))))))))
                  ·
                    refine bj_go hA hm ?_
                    change BJ K _ [none, none, none, some (.dat ((eT (eP3 eI eI eI)) s15.2)), some (.dat (eI t13)), none, some (.dat ((eT eI) r26.2)), some (.dat (eB s37.1)), some (.own none (.lst (List.map eI s37.2))), some (.dat ((eT eI) b38)), none, none, some (.dat (eD r40)), none] _ _ _ _ _
                    exact bj_nx (a := s37.1) (.d (.d (.d (.s (.s (.d (.s (.s (.s (.d (.d (.d (.s (.d .nil))))))))))))))
                ·
                  change BJ K _ [none, none, none, some (.dat ((eT (eP3 eI eI eI)) s15.2)), some (.dat (eI t13)), none, some (.dat ((eT eI) r26.2)), some (.dat (eB s41)), some (.own none (.lst (List.map eI s37.2))), none, none, none, some (.dat (eD r40)), none] _ _ _ _ _
                  refine fun g σ H D hA hm => ?_
                  refine x_forR1 ?_
                  refine (ev_var rfl) _ _ _ _ _ hA fun v H hA => ?_
                  refine f_rng1 (b := t13) hA hm fun hm => f_for (e := eI) (fun (s44 : (List Int)) => [none, none, none, some (.dat ((eT (eP3 eI eI eI)) s15.2)), some (.dat (eI t13)), none, some (.dat ((eT eI) r26.2)), some (.dat (eB s41)), some (.own none (.lst (List.map eI s44))), none, none, none, some (.dat (eD r40)), none]) (s0 := s37.2) (.d (.d (.d (.s (.s (.d (.s (.s (.s (.d (.d (.d (.s (.d .nil)))))))))))))) hm (hb_of (e := eI) (js := [5]) (ps := fun b45 => [eI b45]) (fun b => tj_name) (hjl (n := 14) (fun s => rfl) (by decide)) (fun s44 b45 => ?_)) (fun s44 => ?_)
                  ·
                    change BJ K _ [none, none, none, some (.dat ((eT (eP3 eI eI eI)) s15.2)), some (.dat (eI t13)), some (.dat (eI b45)), some (.dat ((eT eI) r26.2)), some (.dat (eB s41)), some (.own none (.lst (List.map eI s44))), none, none, none, some (.dat (eD r40)), none] _ _ _ _ _
                    refine fun g σ H D hA hm => x_asg ?_
                    refine x_cb2 ?_
                    refine x_op ?_
                    refine (ev_own rfl) _ _ _ _ _ hA fun v H hA => ?_
                    refine (ev_var rfl) _ _ _ _ _ hA fun v H hA => ?_
                    refine f_o2m (o2_idxL (xs := s44) (e := eI) (.als rfl)) hA hm fun t46 v H hA hm => ?_
                    refine x_op ?_
                    refine x_op ?_
                    refine (ev_var rfl) _ _ _ _ _ hA fun v H hA => ?_
                    refine ev_int _ _ _ _ _ hA fun v H hA => ?_
                    refine f_o2m o2_atD hA hm fun t47 v H hA hm => ?_
                    refine (ev_var rfl) _ _ _ _ _ hA fun v H hA => ?_
                    refine f_o2m o2_atD hA hm fun t48 v H hA hm => ?_
                    refine f_int hA hm fun t49 hA hm => ?_
                    refine o2_max _ _ _ _ _ _ _ hA fun v H hA => ?_
                    refine x_gsub ?_
                    refine (ev_own rfl) _ _ _ _ _ hA fun v H hA => ?_
                    refine (ev_var rfl) _ _ _ _ _ hA fun v H hA => ?_
                    refine f_setm (xs := s44) (e := eI) rfl hA hm fun ys50 H hA hm => ?_
                    refine bj_go hA hm ?_
                    change BJ K _ [none, none, none, some (.dat ((eT (eP3 eI eI eI)) s15.2)), some (.dat (eI t13)), some (.dat (eI b45)), some (.dat ((eT eI) r26.2)), some (.dat (eB s41)), some (.own none (.lst (List.map eI ys50))), none, none, none, some (.dat (eD r40)), none] _ _ _ _ _
                    exact bj_nx (a := ys50) (.d (.d (.d (.s (.s (.d (.s (.s (.s (.d (.d (.d (.s (.d .nil))))))))))))))
                  ·
                    change BJ K _ [none, none, none, some (.dat ((eT (eP3 eI eI eI)) s15.2)), some (.dat (eI t13)), none, some (.dat ((eT eI) r26.2)), some (.dat (eB s41)), some (.own none (.lst (List.map eI s44))), none, none, none, some (.dat (eD r40)), none] _ _ _ _ _
                    exact bj_nx (a := (s41, s44)) (.d (.d (.d (.s (.s (.d (.s (.s (.s (.d (.d (.d (.d (.d .nil))))))))))))))
              ·
                change BJ K _ [none, none, none, some (.dat ((eT (eP3 eI eI eI)) s15.2)), some (.dat (eI t13)), none, some (.dat ((eT eI) r26.2)), some (.dat (eB s37.1)), some (.own none (.lst (List.map eI s37.2))), none, none, none, none, none] _ _ _ _ _
                refine fun g σ H D hA hm => x_ifS ?_
                refine x_test ?_
                refine x_op ?_
                refine x_call1 ?_
                refine (ev_var rfl) _ _ _ _ _ hA fun v H hA => ?_
                replace hA := hA.box (Bx.hd (x := s15.2) (bx_t (bx_p3 bx_i bx_i bx_i)))
                refine f_call [.d (eD ((dT (dP3 PyData.int PyData.int PyData.int)) s15.2))] ((dT (dP3 PyData.int PyData.int PyData.int)) s15.2) (fun r => []) hA rfl rfl True.intro (fun as h => match as, h with | [], _ => rfl) (fun _ => rfl) (fun r as h => match as, h with | [], _ => rfl) (fun r j z => nomatch z) .nil (hm.bindR.imp (fun r51 hm v H hA => ?_) fun _ q => q)
                refine (ev_var rfl) _ _ _ _ _ hA fun v H hA => ?_
                refine o2_eqB _ _ _ _ _ _ _ hA fun v H hA => ?_
                refine f_tst (P := fun c H1 => _) hA fun hA => ?_
                refine f_ifS hm (fun hm => ?_) (fun hm => ?_)
                ·
                  refine bj_go hA hm ?_
                  change BJ K _ [none, none, none, some (.dat ((eT (eP3 eI eI eI)) s15.2)), some (.dat (eI t13)), none, some (.dat ((eT eI) r26.2)), some (.dat (eB s37.1)), some (.own none (.lst (List.map eI s37.2))), none, none, none, none, none] _ _ _ _ _
                  refine bj_assoc ?_
                  refine fun g σ H D hA hm => x_ret ?_
                  refine ev_bl _ _ _ _ _ hA fun v H hA => ?_
                  exact hm v H _ (hA.weak1 (.d .nil) fun j z => nomatch z)
                ·
                  refine bj_go hA hm ?_
                  change BJ K _ [none, none, none, some (.dat ((eT (eP3 eI eI eI)) s15.2)), some (.dat (eI t13)), none, some (.dat ((eT eI) r26.2)), some (.dat (eB s37.1)), some (.own none (.lst (List.map eI s37.2))), none, none, none, none, none] _ _ _ _ _
                  refine bj_pass ?_
                  refine bj_seq (n1 := fun (s52 : Unit) => [none, none, none, some (.dat ((eT (eP3 eI eI eI)) s15.2)), none, none, some (.dat ((eT eI) r26.2)), none, none, none, none, none, none, none]) ?_ (fun s52 => ?_)
                  ·
                    refine bj_if (evb_not (evb_B (ev_var rfl))) ?_ ?_
                    ·
                      refine fun g σ H D hA hm => ?_
                      refine x_forR1 ?_
                      refine (ev_var rfl) _ _ _ _ _ hA fun v H hA => ?_
                      refine f_rng1 (b := t13) hA hm fun hm => f_for (e := eI) (fun (s54 : Unit) => [none, none, none, some (.dat ((eT (eP3 eI eI eI)) s15.2)), none, none, some (.dat ((eT eI) r26.2)), none, some (.own none (.lst (List.map eI s37.2))), none, none, none, none, none]) (s0 := ()) (.d (.d (.d (.s (.d (.d (.s (.d (.s (.d (.d (.d (.d (.d .nil)))))))))))))) hm (hb_of (e := eI) (js := [5]) (ps := fun b55 => [eI b55]) (fun b => tj_name) (hjl (n := 14) (fun s => rfl) (by decide)) (fun s54 b55 => ?_)) (fun s54 => ?_)
                      ·
                        change BJ K _ [none, none, none, some (.dat ((eT (eP3 eI eI eI)) s15.2)), none, some (.dat (eI b55)), some (.dat ((eT eI) r26.2)), none, some (.own none (.lst (List.map eI s37.2))), none, none, none, none, none] _ _ _ _ _
                        refine fun g σ H D hA hm => x_ifS ?_
                        refine f_joinT (fun (s : Bool) => [none, none, none, some (.dat ((eT (eP3 eI eI eI)) s15.2)), none, some (.dat (eI b55)), some (.dat ((eT eI) r26.2)), none, some (.own none (.lst (List.map eI s37.2))), none, none, none, none, none]) (fun s => s) hA hm (fun hm => ?_) (fun j56 H hA hm => ?_)
                        ·
                          refine x_orT ?_
                          refine x_test ?_
                          refine x_op ?_
                          refine x_call2 ?_
                          refine (ev_var rfl) _ _ _ _ _ hA fun v H hA => ?_
                          replace hA := hA.box (Bx.hd (x := s15.2) (bx_t (bx_p3 bx_i bx_i bx_i)))
                          refine (ev_var rfl) _ _ _ _ _ hA fun v H hA => ?_
                          refine f_call [.d (eD ((dT (dP3 PyData.int PyData.int PyData.int)) s15.2)), .d (eI b55)] (((dT (dP3 PyData.int PyData.int PyData.int)) s15.2), b55) (fun r => []) hA rfl rfl True.intro (fun as h => match as, h with | [], _ => rfl) (fun _ => rfl) (fun r as h => match as, h with | [], _ => rfl) (fun r j z => nomatch z) .nil (hm.bindR.imp (fun r57 hm v H hA => ?_) fun _ q => q)
                          refine x_op ?_
                          refine (ev_own rfl) _ _ _ _ _ hA fun v H hA => ?_
                          refine (ev_var rfl) _ _ _ _ _ hA fun v H hA => ?_
                          refine f_o2m (o2_idxL (xs := s37.2) (e := eI) (.als rfl)) hA hm fun t58 v H hA hm => ?_
                          refine (o2_neD (d := (dO PyData.int)) (x := (r57 : (Option Int))) (y := ((some t58) : (Option Int))) (DpT.dat (d := (dO PyData.int)) (x := (r57 : (Option Int))) (bx_o bx_i)) (DpT.dat (d := PyData.int) (x := (t58 : Int)) bx_i) (eq_o eq_i non_i)) _ _ _ _ _ _ _ hA fun v H hA => ?_
                          refine f_tst (P := fun c H1 => _) hA fun hA => ?_
                          refine f_pick hm (fun hm => ?_) (fun hm => ?_)
                          ·
                            exact hm H hA
                          ·
                            refine x_test ?_
                            refine x_op ?_
                            refine x_call3 ?_
                            refine (ev_var rfl) _ _ _ _ _ hA fun v H hA => ?_
                            replace hA := hA.box (Bx.hd (x := s15.2) (bx_t (bx_p3 bx_i bx_i bx_i)))
                            refine (ev_var rfl) _ _ _ _ _ hA fun v H hA => ?_
                            refine ev_int _ _ _ _ _ hA fun v H hA => ?_
                            refine f_call [.d (eD ((dT (dP3 PyData.int PyData.int PyData.int)) s15.2)), .d (eI b55), .d (eI (1 : Int))] (((dT (dP3 PyData.int PyData.int PyData.int)) s15.2), b55, (1 : Int)) (fun r => []) hA rfl rfl True.intro (fun as h => match as, h with | [], _ => rfl) (fun _ => rfl) (fun r as h => match as, h with | [], _ => rfl) (fun r j z => nomatch z) .nil (hm.bindR.imp (fun r59 hm v H hA => ?_) fun _ q => q)
                            refine x_tup ?_
                            refine x_cons ?_
                            refine x_op ?_
                            refine (ev_own rfl) _ _ _ _ _ hA fun v H hA => ?_
                            refine (ev_var rfl) _ _ _ _ _ hA fun v H hA => ?_
                            refine f_o2m (o2_idxL (xs := s37.2) (e := eI) (.als rfl)) hA hm fun t60 v H hA hm => ?_
                            refine x_nil ?_
                            refine f_tup (vs := [_]) [eI t60] hA rfl (Nat.le_of_ble_eq_true rfl) fun v H hA => ?_
                            refine (o2_neD (x := (r59 : (List Int))) (y := ([t60] : (List Int))) (.dat (bx_t bx_i)) (.dat (bx_t bx_i)) (eq_t eq_i)) _ _ _ _ _ _ _ hA fun v H hA => ?_
                            refine f_tst (P := fun c H1 => _) hA fun hA => ?_
                            exact hm H hA
                        ·
                          replace hA : At K g [none, none, none, some (.dat ((eT (eP3 eI eI eI)) s15.2)), none, some (.dat (eI b55)), some (.dat ((eT eI) r26.2)), none, some (.own none (.lst (List.map eI s37.2))), none, none, none, none, none] _ _ _ := hA
                          refine f_ifS hm (fun hm => ?_) (fun hm => ?_)
                          ·
                            refine bj_go hA hm ?_
                            change BJ K _ [none, none, none, some (.dat ((eT (eP3 eI eI eI)) s15.2)), none, some (.dat (eI b55)), some (.dat ((eT eI) r26.2)), none, some (.own none (.lst (List.map eI s37.2))), none, none, none, none, none] _ _ _ _ _
                            refine bj_assoc ?_
                            refine fun g σ H D hA hm => x_ret ?_
                            refine ev_bl _ _ _ _ _ hA fun v H hA => ?_
                            exact hm v H _ (hA.weak1 (.d .nil) fun j z => nomatch z)
                          ·
                            refine bj_go hA hm ?_
                            change BJ K _ [none, none, none, some (.dat ((eT (eP3 eI eI eI)) s15.2)), none, some (.dat (eI b55)), some (.dat ((eT eI) r26.2)), none, some (.own none (.lst (List.map eI s37.2))), none, none, none, none, none] _ _ _ _ _
                            refine bj_pass ?_
                            exact bj_nx (a := ()) (.d (.d (.d (.s (.d (.d (.s (.d (.s (.d (.d (.d (.d (.d .nil))))))))))))))
                      ·
                        change BJ K _ [none, none, none, some (.dat ((eT (eP3 eI eI eI)) s15.2)), none, none, some (.dat ((eT eI) r26.2)), none, some (.own none (.lst (List.map eI s37.2))), none, none, none, none, none] _ _ _ _ _
                        exact bj_nx (a := ()) (.d (.d (.d (.s (.d (.d (.s (.d (.d (.d (.d (.d (.d (.d .nil))))))))))))))
                    ·
                      exact bj_nx (a := ()) (.d (.d (.d (.s (.d (.d (.s (.d (.d (.d (.d (.d (.d (.d .nil))))))))))))))
                  ·
                    change BJ K _ [none, none, none, some (.dat ((eT (eP3 eI eI eI)) s15.2)), none, none, some (.dat ((eT eI) r26.2)), none, none, none, none, none, none, none] _ _ _ _ _
                    refine fun g σ H D hA hm => x_ret ?_
                    refine x_call2 ?_
                    refine (ev_var rfl) _ _ _ _ _ hA fun v H hA => ?_
                    refine (ev_var rfl) _ _ _ _ _ hA fun v H hA => ?_
                    refine f_call [.d ((eT (eP3 eI eI eI)) s15.2), .d ((eT eI) r26.2)] (s15.2, r26.2) (fun r => []) hA rfl rfl True.intro (fun as h => match as, h with | [], _ => rfl) (fun _ => rfl) (fun r as h => match as, h with | [], _ => rfl) (fun r j z => nomatch z) .nil (hm.bindR.imp (fun r61 hm v H hA => ?_) fun _ q => q)
                    exact hm v H _ (hA.weak1 (.d .nil) fun j z => nomatch z)
end
end Lw

set_option Elab.async false
set_option linter.all false
set_option maxRecDepth 100000
set_option maxHeartbeats 4000000
namespace Lw
open PySem L2 Gv PyProof.Rows
theorem all_mk (hlaw : ∀ ns : List Int, ns.length ≤ 63 → f_law ns = .nx true) {l : PySem.W.OpenLaw} {w : World} {K : PySem.W.Frag} {h : Heap} {mg : Str → Option Value} {fa f_is_whole f_whole_in f_check_jobs f_check_job_place f_common_period f_jobs_come f_run_one_rung f_first_miss f_job_ends f_rows_of_response f_response f_never_misses f_law_numbers f_law_draw f_law_int f_law_responses f_law_common f_law_times f_law_offsets f_law_at f_law_rows_fit f_law_refused f_law_refusals_fit f_law_drawn_fits f_law c_BadNumber i_BadNumber c_TooMany i_TooMany : Addr} (X : K.In h) (G : h.Ns mainGlobals mg) (hfa : mg "law" = some (.ref fa))
    {od_is_whole an_is_whole od_whole_in an_whole_in od_check_jobs an_check_jobs od_check_job_place an_check_job_place od_common_period an_common_period od_jobs_come an_jobs_come od_run_one_rung an_run_one_rung od_first_miss an_first_miss od_job_ends an_job_ends od_rows_of_response an_rows_of_response od_response an_response od_never_misses an_never_misses od_law_numbers an_law_numbers od_law_draw an_law_draw od_law_int an_law_int od_law_responses an_law_responses od_law_common an_law_common od_law_times an_law_times od_law_offsets an_law_offsets od_law_at an_law_at od_law_rows_fit an_law_rows_fit od_law_refused an_law_refused od_law_refusals_fit an_law_refusals_fit od_law_drawn_fits an_law_drawn_fits od_law an_law od_IBadNumber an_IBadNumber od_ITooMany an_ITooMany : Option Addr} {sl_is_whole sl_whole_in sl_check_jobs sl_check_job_place sl_common_period sl_jobs_come sl_run_one_rung sl_first_miss sl_job_ends sl_rows_of_response sl_response sl_never_misses sl_law_numbers sl_law_draw sl_law_int sl_law_responses sl_law_common sl_law_times sl_law_offsets sl_law_at sl_law_rows_fit sl_law_refused sl_law_refusals_fit sl_law_drawn_fits sl_law sl_IBadNumber sl_ITooMany : Array (Option Value)} {oc_is_whole kV_is_whole dc_is_whole pm_is_whole cd_is_whole ct_is_whole oc_whole_in kV_whole_in dc_whole_in pm_whole_in cd_whole_in ct_whole_in oc_check_jobs kV_check_jobs dc_check_jobs pm_check_jobs cd_check_jobs ct_check_jobs oc_check_job_place kV_check_job_place dc_check_job_place pm_check_job_place cd_check_job_place ct_check_job_place oc_common_period kV_common_period dc_common_period pm_common_period cd_common_period ct_common_period oc_jobs_come kV_jobs_come dc_jobs_come pm_jobs_come cd_jobs_come ct_jobs_come oc_run_one_rung kV_run_one_rung dc_run_one_rung pm_run_one_rung cd_run_one_rung ct_run_one_rung oc_first_miss kV_first_miss dc_first_miss pm_first_miss cd_first_miss ct_first_miss oc_job_ends kV_job_ends dc_job_ends pm_job_ends cd_job_ends ct_job_ends oc_rows_of_response kV_rows_of_response dc_rows_of_response pm_rows_of_response cd_rows_of_response ct_rows_of_response oc_response kV_response dc_response pm_response cd_response ct_response oc_never_misses kV_never_misses dc_never_misses pm_never_misses cd_never_misses ct_never_misses oc_law_numbers kV_law_numbers dc_law_numbers pm_law_numbers cd_law_numbers ct_law_numbers oc_law_draw kV_law_draw dc_law_draw pm_law_draw cd_law_draw ct_law_draw oc_law_int kV_law_int dc_law_int pm_law_int cd_law_int ct_law_int oc_law_responses kV_law_responses dc_law_responses pm_law_responses cd_law_responses ct_law_responses oc_law_common kV_law_common dc_law_common pm_law_common cd_law_common ct_law_common oc_law_times kV_law_times dc_law_times pm_law_times cd_law_times ct_law_times oc_law_offsets kV_law_offsets dc_law_offsets pm_law_offsets cd_law_offsets ct_law_offsets oc_law_at kV_law_at dc_law_at pm_law_at cd_law_at ct_law_at oc_law_rows_fit kV_law_rows_fit dc_law_rows_fit pm_law_rows_fit cd_law_rows_fit ct_law_rows_fit oc_law_refused kV_law_refused dc_law_refused pm_law_refused cd_law_refused ct_law_refused oc_law_refusals_fit kV_law_refusals_fit dc_law_refusals_fit pm_law_refusals_fit cd_law_refusals_fit ct_law_refusals_fit oc_law_drawn_fits kV_law_drawn_fits dc_law_drawn_fits pm_law_drawn_fits cd_law_drawn_fits ct_law_drawn_fits oc_law kV_law dc_law pm_law cd_law ct_law oc_IBadNumber kV_IBadNumber dc_IBadNumber pm_IBadNumber cd_IBadNumber ct_IBadNumber oc_ITooMany kV_ITooMany dc_ITooMany pm_ITooMany cd_ITooMany ct_ITooMany : Value}
    {tk_LONGEST_JOB tk_MOST_JOBS tk_MOST_RUNGS tk_MOST_TOLD : Tok}
    {nm_BadNumber qn_BadNumber : Str} {ns_BadNumber b0_BadNumber : Addr} {bs_BadNumber : List Value} {sn_BadNumber : List Str} {sb_BadNumber : List Value} {ab_BadNumber : Bool} {col_BadNumber : Option Bool} {dd_BadNumber : Option Addr} {m0_BadNumber m1_BadNumber m2_BadNumber m3_BadNumber m5_BadNumber : Option Value}
    {nm_TooMany qn_TooMany : Str} {ns_TooMany b0_TooMany : Addr} {bs_TooMany : List Value} {sn_TooMany : List Str} {sb_TooMany : List Value} {ab_TooMany : Bool} {col_TooMany : Option Bool} {dd_TooMany : Option Addr} {m0_TooMany m1_TooMany m2_TooMany m3_TooMany m5_TooMany : Option Value}
    (z_all : PySem.W.nsIn K mainGlobals "all" = some none)
    (z_bool : PySem.W.nsIn K mainGlobals "bool" = some none)
    (z_enumerate : PySem.W.nsIn K mainGlobals "enumerate" = some none)
    (z_int : PySem.W.nsIn K mainGlobals "int" = some none)
    (z_isinstance : PySem.W.nsIn K mainGlobals "isinstance" = some none)
    (z_len : PySem.W.nsIn K mainGlobals "len" = some none)
    (z_list : PySem.W.nsIn K mainGlobals "list" = some none)
    (z_max : PySem.W.nsIn K mainGlobals "max" = some none)
    (z_min : PySem.W.nsIn K mainGlobals "min" = some none)
    (z_range : PySem.W.nsIn K mainGlobals "range" = some none)
    (z_str : PySem.W.nsIn K mainGlobals "str" = some none)
    (z_sum : PySem.W.nsIn K mainGlobals "sum" = some none)
    (z_tuple : PySem.W.nsIn K mainGlobals "tuple" = some none)
    (k_LONGEST_JOB : PySem.W.nsIn K mainGlobals "LONGEST_JOB" = some (some (.int 24 tk_LONGEST_JOB)))
    (k_MOST_JOBS : PySem.W.nsIn K mainGlobals "MOST_JOBS" = some (some (.int 5 tk_MOST_JOBS)))
    (k_MOST_RUNGS : PySem.W.nsIn K mainGlobals "MOST_RUNGS" = some (some (.int 12 tk_MOST_RUNGS)))
    (k_MOST_TOLD : PySem.W.nsIn K mainGlobals "MOST_TOLD" = some (some (.int 200 tk_MOST_TOLD)))
    (m_lcm : PySem.W.nsIn K mainGlobals "lcm" = some (some (.builtin "math.lcm")))
    (a_is_whole : PySem.W.nsIn K mainGlobals "_is_whole" = some (some (.ref f_is_whole)))
    (l_is_whole : K.lookup f_is_whole = some ⟨oc_is_whole, od_is_whole, .func (PySem.W.fnOf "_is_whole" "_is_whole" (defArgs st_is_whole) (defBody st_is_whole) (defScope st_is_whole) .none kV_is_whole dc_is_whole pm_is_whole an_is_whole cd_is_whole ct_is_whole), sl_is_whole⟩)
    (q_is_whole : PySem.W.codeIn K cd_is_whole "_is_whole" = true)
    (p_is_whole : PySem.W.keepIn K (.ref f_is_whole) = true)
    (a_whole_in : PySem.W.nsIn K mainGlobals "_whole_in" = some (some (.ref f_whole_in)))
    (l_whole_in : K.lookup f_whole_in = some ⟨oc_whole_in, od_whole_in, .func (PySem.W.fnOf "_whole_in" "_whole_in" (defArgs st_whole_in) (defBody st_whole_in) (defScope st_whole_in) .none kV_whole_in dc_whole_in pm_whole_in an_whole_in cd_whole_in ct_whole_in), sl_whole_in⟩)
    (q_whole_in : PySem.W.codeIn K cd_whole_in "_whole_in" = true)
    (p_whole_in : PySem.W.keepIn K (.ref f_whole_in) = true)
    (a_check_jobs : PySem.W.nsIn K mainGlobals "_check_jobs" = some (some (.ref f_check_jobs)))
    (l_check_jobs : K.lookup f_check_jobs = some ⟨oc_check_jobs, od_check_jobs, .func (PySem.W.fnOf "_check_jobs" "_check_jobs" (defArgs st_check_jobs) (defBody st_check_jobs) (defScope st_check_jobs) .none kV_check_jobs dc_check_jobs pm_check_jobs an_check_jobs cd_check_jobs ct_check_jobs), sl_check_jobs⟩)
    (q_check_jobs : PySem.W.codeIn K cd_check_jobs "_check_jobs" = true)
    (p_check_jobs : PySem.W.keepIn K (.ref f_check_jobs) = true)
    (a_check_job_place : PySem.W.nsIn K mainGlobals "_check_job_place" = some (some (.ref f_check_job_place)))
    (l_check_job_place : K.lookup f_check_job_place = some ⟨oc_check_job_place, od_check_job_place, .func (PySem.W.fnOf "_check_job_place" "_check_job_place" (defArgs st_check_job_place) (defBody st_check_job_place) (defScope st_check_job_place) .none kV_check_job_place dc_check_job_place pm_check_job_place an_check_job_place cd_check_job_place ct_check_job_place), sl_check_job_place⟩)
    (q_check_job_place : PySem.W.codeIn K cd_check_job_place "_check_job_place" = true)
    (p_check_job_place : PySem.W.keepIn K (.ref f_check_job_place) = true)
    (a_common_period : PySem.W.nsIn K mainGlobals "_common_period" = some (some (.ref f_common_period)))
    (l_common_period : K.lookup f_common_period = some ⟨oc_common_period, od_common_period, .func (PySem.W.fnOf "_common_period" "_common_period" (defArgs st_common_period) (defBody st_common_period) (defScope st_common_period) .none kV_common_period dc_common_period pm_common_period an_common_period cd_common_period ct_common_period), sl_common_period⟩)
    (q_common_period : PySem.W.codeIn K cd_common_period "_common_period" = true)
    (p_common_period : PySem.W.keepIn K (.ref f_common_period) = true)
    (a_jobs_come : PySem.W.nsIn K mainGlobals "_jobs_come" = some (some (.ref f_jobs_come)))
    (l_jobs_come : K.lookup f_jobs_come = some ⟨oc_jobs_come, od_jobs_come, .func (PySem.W.fnOf "_jobs_come" "_jobs_come" (defArgs st_jobs_come) (defBody st_jobs_come) (defScope st_jobs_come) .none kV_jobs_come dc_jobs_come pm_jobs_come an_jobs_come cd_jobs_come ct_jobs_come), sl_jobs_come⟩)
    (q_jobs_come : PySem.W.codeIn K cd_jobs_come "_jobs_come" = true)
    (p_jobs_come : PySem.W.keepIn K (.ref f_jobs_come) = true)
    (a_run_one_rung : PySem.W.nsIn K mainGlobals "_run_one_rung" = some (some (.ref f_run_one_rung)))
    (l_run_one_rung : K.lookup f_run_one_rung = some ⟨oc_run_one_rung, od_run_one_rung, .func (PySem.W.fnOf "_run_one_rung" "_run_one_rung" (defArgs st_run_one_rung) (defBody st_run_one_rung) (defScope st_run_one_rung) .none kV_run_one_rung dc_run_one_rung pm_run_one_rung an_run_one_rung cd_run_one_rung ct_run_one_rung), sl_run_one_rung⟩)
    (q_run_one_rung : PySem.W.codeIn K cd_run_one_rung "_run_one_rung" = true)
    (p_run_one_rung : PySem.W.keepIn K (.ref f_run_one_rung) = true)
    (a_first_miss : PySem.W.nsIn K mainGlobals "first_miss" = some (some (.ref f_first_miss)))
    (l_first_miss : K.lookup f_first_miss = some ⟨oc_first_miss, od_first_miss, .func (PySem.W.fnOf "first_miss" "first_miss" (defArgs st_first_miss) (defBody st_first_miss) (defScope st_first_miss) .none kV_first_miss dc_first_miss pm_first_miss an_first_miss cd_first_miss ct_first_miss), sl_first_miss⟩)
    (q_first_miss : PySem.W.codeIn K cd_first_miss "first_miss" = true)
    (p_first_miss : PySem.W.keepIn K (.ref f_first_miss) = true)
    (a_job_ends : PySem.W.nsIn K mainGlobals "job_ends" = some (some (.ref f_job_ends)))
    (l_job_ends : K.lookup f_job_ends = some ⟨oc_job_ends, od_job_ends, .func (PySem.W.fnOf "job_ends" "job_ends" (defArgs st_job_ends) (defBody st_job_ends) (defScope st_job_ends) .none kV_job_ends dc_job_ends pm_job_ends an_job_ends cd_job_ends ct_job_ends), sl_job_ends⟩)
    (q_job_ends : PySem.W.codeIn K cd_job_ends "job_ends" = true)
    (p_job_ends : PySem.W.keepIn K (.ref f_job_ends) = true)
    (a_rows_of_response : PySem.W.nsIn K mainGlobals "rows_of_response" = some (some (.ref f_rows_of_response)))
    (l_rows_of_response : K.lookup f_rows_of_response = some ⟨oc_rows_of_response, od_rows_of_response, .func (PySem.W.fnOf "rows_of_response" "rows_of_response" (defArgs st_rows_of_response) (defBody st_rows_of_response) (defScope st_rows_of_response) .none kV_rows_of_response dc_rows_of_response pm_rows_of_response an_rows_of_response cd_rows_of_response ct_rows_of_response), sl_rows_of_response⟩)
    (q_rows_of_response : PySem.W.codeIn K cd_rows_of_response "rows_of_response" = true)
    (p_rows_of_response : PySem.W.keepIn K (.ref f_rows_of_response) = true)
    (a_response : PySem.W.nsIn K mainGlobals "response" = some (some (.ref f_response)))
    (l_response : K.lookup f_response = some ⟨oc_response, od_response, .func (PySem.W.fnOf "response" "response" (defArgs st_response) (defBody st_response) (defScope st_response) .none kV_response dc_response pm_response an_response cd_response ct_response), sl_response⟩)
    (q_response : PySem.W.codeIn K cd_response "response" = true)
    (p_response : PySem.W.keepIn K (.ref f_response) = true)
    (a_never_misses : PySem.W.nsIn K mainGlobals "never_misses" = some (some (.ref f_never_misses)))
    (l_never_misses : K.lookup f_never_misses = some ⟨oc_never_misses, od_never_misses, .func (PySem.W.fnOf "never_misses" "never_misses" (defArgs st_never_misses) (defBody st_never_misses) (defScope st_never_misses) .none kV_never_misses dc_never_misses pm_never_misses an_never_misses cd_never_misses ct_never_misses), sl_never_misses⟩)
    (q_never_misses : PySem.W.codeIn K cd_never_misses "never_misses" = true)
    (p_never_misses : PySem.W.keepIn K (.ref f_never_misses) = true)
    (a_law_numbers : PySem.W.nsIn K mainGlobals "_law_numbers" = some (some (.ref f_law_numbers)))
    (l_law_numbers : K.lookup f_law_numbers = some ⟨oc_law_numbers, od_law_numbers, .func (PySem.W.fnOf "_law_numbers" "_law_numbers" (defArgs st_law_numbers) (defBody st_law_numbers) (defScope st_law_numbers) .none kV_law_numbers dc_law_numbers pm_law_numbers an_law_numbers cd_law_numbers ct_law_numbers), sl_law_numbers⟩)
    (q_law_numbers : PySem.W.codeIn K cd_law_numbers "_law_numbers" = true)
    (p_law_numbers : PySem.W.keepIn K (.ref f_law_numbers) = true)
    (a_law_draw : PySem.W.nsIn K mainGlobals "_law_draw" = some (some (.ref f_law_draw)))
    (l_law_draw : K.lookup f_law_draw = some ⟨oc_law_draw, od_law_draw, .func (PySem.W.fnOf "_law_draw" "_law_draw" (defArgs st_law_draw) (defBody st_law_draw) (defScope st_law_draw) .none kV_law_draw dc_law_draw pm_law_draw an_law_draw cd_law_draw ct_law_draw), sl_law_draw⟩)
    (q_law_draw : PySem.W.codeIn K cd_law_draw "_law_draw" = true)
    (p_law_draw : PySem.W.keepIn K (.ref f_law_draw) = true)
    (a_law_int : PySem.W.nsIn K mainGlobals "_law_int" = some (some (.ref f_law_int)))
    (l_law_int : K.lookup f_law_int = some ⟨oc_law_int, od_law_int, .func (PySem.W.fnOf "_law_int" "_law_int" (defArgs st_law_int) (defBody st_law_int) (defScope st_law_int) .none kV_law_int dc_law_int pm_law_int an_law_int cd_law_int ct_law_int), sl_law_int⟩)
    (q_law_int : PySem.W.codeIn K cd_law_int "_law_int" = true)
    (p_law_int : PySem.W.keepIn K (.ref f_law_int) = true)
    (a_law_responses : PySem.W.nsIn K mainGlobals "_law_responses" = some (some (.ref f_law_responses)))
    (l_law_responses : K.lookup f_law_responses = some ⟨oc_law_responses, od_law_responses, .func (PySem.W.fnOf "_law_responses" "_law_responses" (defArgs st_law_responses) (defBody st_law_responses) (defScope st_law_responses) .none kV_law_responses dc_law_responses pm_law_responses an_law_responses cd_law_responses ct_law_responses), sl_law_responses⟩)
    (q_law_responses : PySem.W.codeIn K cd_law_responses "_law_responses" = true)
    (p_law_responses : PySem.W.keepIn K (.ref f_law_responses) = true)
    (a_law_common : PySem.W.nsIn K mainGlobals "_law_common" = some (some (.ref f_law_common)))
    (l_law_common : K.lookup f_law_common = some ⟨oc_law_common, od_law_common, .func (PySem.W.fnOf "_law_common" "_law_common" (defArgs st_law_common) (defBody st_law_common) (defScope st_law_common) .none kV_law_common dc_law_common pm_law_common an_law_common cd_law_common ct_law_common), sl_law_common⟩)
    (q_law_common : PySem.W.codeIn K cd_law_common "_law_common" = true)
    (p_law_common : PySem.W.keepIn K (.ref f_law_common) = true)
    (a_law_times : PySem.W.nsIn K mainGlobals "_law_times" = some (some (.ref f_law_times)))
    (l_law_times : K.lookup f_law_times = some ⟨oc_law_times, od_law_times, .func (PySem.W.fnOf "_law_times" "_law_times" (defArgs st_law_times) (defBody st_law_times) (defScope st_law_times) .none kV_law_times dc_law_times pm_law_times an_law_times cd_law_times ct_law_times), sl_law_times⟩)
    (q_law_times : PySem.W.codeIn K cd_law_times "_law_times" = true)
    (p_law_times : PySem.W.keepIn K (.ref f_law_times) = true)
    (a_law_offsets : PySem.W.nsIn K mainGlobals "_law_offsets" = some (some (.ref f_law_offsets)))
    (l_law_offsets : K.lookup f_law_offsets = some ⟨oc_law_offsets, od_law_offsets, .func (PySem.W.fnOf "_law_offsets" "_law_offsets" (defArgs st_law_offsets) (defBody st_law_offsets) (defScope st_law_offsets) .none kV_law_offsets dc_law_offsets pm_law_offsets an_law_offsets cd_law_offsets ct_law_offsets), sl_law_offsets⟩)
    (q_law_offsets : PySem.W.codeIn K cd_law_offsets "_law_offsets" = true)
    (p_law_offsets : PySem.W.keepIn K (.ref f_law_offsets) = true)
    (a_law_at : PySem.W.nsIn K mainGlobals "_law_at" = some (some (.ref f_law_at)))
    (l_law_at : K.lookup f_law_at = some ⟨oc_law_at, od_law_at, .func (PySem.W.fnOf "_law_at" "_law_at" (defArgs st_law_at) (defBody st_law_at) (defScope st_law_at) .none kV_law_at dc_law_at pm_law_at an_law_at cd_law_at ct_law_at), sl_law_at⟩)
    (q_law_at : PySem.W.codeIn K cd_law_at "_law_at" = true)
    (p_law_at : PySem.W.keepIn K (.ref f_law_at) = true)
    (a_law_rows_fit : PySem.W.nsIn K mainGlobals "_law_rows_fit" = some (some (.ref f_law_rows_fit)))
    (l_law_rows_fit : K.lookup f_law_rows_fit = some ⟨oc_law_rows_fit, od_law_rows_fit, .func (PySem.W.fnOf "_law_rows_fit" "_law_rows_fit" (defArgs st_law_rows_fit) (defBody st_law_rows_fit) (defScope st_law_rows_fit) .none kV_law_rows_fit dc_law_rows_fit pm_law_rows_fit an_law_rows_fit cd_law_rows_fit ct_law_rows_fit), sl_law_rows_fit⟩)
    (q_law_rows_fit : PySem.W.codeIn K cd_law_rows_fit "_law_rows_fit" = true)
    (p_law_rows_fit : PySem.W.keepIn K (.ref f_law_rows_fit) = true)
    (a_law_refused : PySem.W.nsIn K mainGlobals "_law_refused" = some (some (.ref f_law_refused)))
    (l_law_refused : K.lookup f_law_refused = some ⟨oc_law_refused, od_law_refused, .func (PySem.W.fnOf "_law_refused" "_law_refused" (defArgs st_law_refused) (defBody st_law_refused) (defScope st_law_refused) .none kV_law_refused dc_law_refused pm_law_refused an_law_refused cd_law_refused ct_law_refused), sl_law_refused⟩)
    (q_law_refused : PySem.W.codeIn K cd_law_refused "_law_refused" = true)
    (p_law_refused : PySem.W.keepIn K (.ref f_law_refused) = true)
    (a_law_refusals_fit : PySem.W.nsIn K mainGlobals "_law_refusals_fit" = some (some (.ref f_law_refusals_fit)))
    (l_law_refusals_fit : K.lookup f_law_refusals_fit = some ⟨oc_law_refusals_fit, od_law_refusals_fit, .func (PySem.W.fnOf "_law_refusals_fit" "_law_refusals_fit" (defArgs st_law_refusals_fit) (defBody st_law_refusals_fit) (defScope st_law_refusals_fit) .none kV_law_refusals_fit dc_law_refusals_fit pm_law_refusals_fit an_law_refusals_fit cd_law_refusals_fit ct_law_refusals_fit), sl_law_refusals_fit⟩)
    (q_law_refusals_fit : PySem.W.codeIn K cd_law_refusals_fit "_law_refusals_fit" = true)
    (p_law_refusals_fit : PySem.W.keepIn K (.ref f_law_refusals_fit) = true)
    (a_law_drawn_fits : PySem.W.nsIn K mainGlobals "_law_drawn_fits" = some (some (.ref f_law_drawn_fits)))
    (l_law_drawn_fits : K.lookup f_law_drawn_fits = some ⟨oc_law_drawn_fits, od_law_drawn_fits, .func (PySem.W.fnOf "_law_drawn_fits" "_law_drawn_fits" (defArgs st_law_drawn_fits) (defBody st_law_drawn_fits) (defScope st_law_drawn_fits) .none kV_law_drawn_fits dc_law_drawn_fits pm_law_drawn_fits an_law_drawn_fits cd_law_drawn_fits ct_law_drawn_fits), sl_law_drawn_fits⟩)
    (q_law_drawn_fits : PySem.W.codeIn K cd_law_drawn_fits "_law_drawn_fits" = true)
    (p_law_drawn_fits : PySem.W.keepIn K (.ref f_law_drawn_fits) = true)
    (a_law : PySem.W.nsIn K mainGlobals "law" = some (some (.ref f_law)))
    (l_law : K.lookup f_law = some ⟨oc_law, od_law, .func (PySem.W.fnOf "law" "law" (defArgs st_law) (defBody st_law) (defScope st_law) .none kV_law dc_law pm_law an_law cd_law ct_law), sl_law⟩)
    (q_law : PySem.W.codeIn K cd_law "law" = true)
    (p_law : PySem.W.keepIn K (.ref f_law) = true)
    (a_c_BadNumber : PySem.W.nsIn K mainGlobals "BadNumber" = some (some (.ref c_BadNumber)))
    (xL_BadNumber : K.lookup c_BadNumber = some (excClassObj nm_BadNumber qn_BadNumber c_BadNumber ns_BadNumber bs_BadNumber [.ref b0_BadNumber, .type "ValueError", .type "Exception", .type "BaseException", .type "object"] true sn_BadNumber sb_BadNumber ab_BadNumber col_BadNumber dd_BadNumber m0_BadNumber m1_BadNumber m2_BadNumber m3_BadNumber m5_BadNumber "ValueError.__new__"))
    (sa_BadNumber : PySem.W.findIn K (.ref c_BadNumber) "__setattr__" = some (some (.builtin "object.__setattr__")))
    (ga_BadNumber : PySem.W.findIn K (.ref c_BadNumber) "__getattribute__" = some (some (.builtin "BaseException.__getattribute__")))
    (gg_BadNumber : PySem.W.findIn K (.ref c_BadNumber) "__getattr__" = some none)
    (n_BadNumber_word : PySem.W.findIn K (.ref c_BadNumber) "word" = some none)
    (in_BadNumber : PySem.W.findIn K (.ref c_BadNumber) "__init__" = some (some (.ref i_BadNumber)))
    (ti_BadNumber : PySem.W.typeIn K (.ref i_BadNumber) = some (.type "function"))
    (l_IBadNumber : K.lookup i_BadNumber = some ⟨oc_IBadNumber, od_IBadNumber, .func (PySem.W.fnOf "__init__" "BadNumber.__init__" (defArgs sti_BadNumber) (defBody sti_BadNumber) (defScope sti_BadNumber) .none kV_IBadNumber dc_IBadNumber pm_IBadNumber an_IBadNumber cd_IBadNumber ct_IBadNumber), sl_IBadNumber⟩)
    (q_IBadNumber : PySem.W.codeIn K cd_IBadNumber "BadNumber.__init__" = true)
    (p_IBadNumber : PySem.W.keepIn K (.ref i_BadNumber) = true)
    (kC_BadNumber : PySem.W.keepIn K (.ref c_BadNumber) = true)
    (eC_BadNumber : PySem.W.subIn K (.ref c_BadNumber) (.type "BaseException") = some true)
    (tC_BadNumber : PySem.W.typeIn K (.ref c_BadNumber) = some (.type "type"))
    (hC_BadNumber : PySem.W.hasDictIn K c_BadNumber = true)
    (iC_BadNumber : PySem.W.isClsIn K c_BadNumber = true)
    (a_c_TooMany : PySem.W.nsIn K mainGlobals "TooMany" = some (some (.ref c_TooMany)))
    (xL_TooMany : K.lookup c_TooMany = some (excClassObj nm_TooMany qn_TooMany c_TooMany ns_TooMany bs_TooMany [.ref b0_TooMany, .type "ValueError", .type "Exception", .type "BaseException", .type "object"] true sn_TooMany sb_TooMany ab_TooMany col_TooMany dd_TooMany m0_TooMany m1_TooMany m2_TooMany m3_TooMany m5_TooMany "ValueError.__new__"))
    (sa_TooMany : PySem.W.findIn K (.ref c_TooMany) "__setattr__" = some (some (.builtin "object.__setattr__")))
    (ga_TooMany : PySem.W.findIn K (.ref c_TooMany) "__getattribute__" = some (some (.builtin "BaseException.__getattribute__")))
    (gg_TooMany : PySem.W.findIn K (.ref c_TooMany) "__getattr__" = some none)
    (n_TooMany_limit : PySem.W.findIn K (.ref c_TooMany) "limit" = some none)
    (in_TooMany : PySem.W.findIn K (.ref c_TooMany) "__init__" = some (some (.ref i_TooMany)))
    (ti_TooMany : PySem.W.typeIn K (.ref i_TooMany) = some (.type "function"))
    (l_ITooMany : K.lookup i_TooMany = some ⟨oc_ITooMany, od_ITooMany, .func (PySem.W.fnOf "__init__" "TooMany.__init__" (defArgs sti_TooMany) (defBody sti_TooMany) (defScope sti_TooMany) .none kV_ITooMany dc_ITooMany pm_ITooMany an_ITooMany cd_ITooMany ct_ITooMany), sl_ITooMany⟩)
    (q_ITooMany : PySem.W.codeIn K cd_ITooMany "TooMany.__init__" = true)
    (p_ITooMany : PySem.W.keepIn K (.ref i_TooMany) = true)
    (kC_TooMany : PySem.W.keepIn K (.ref c_TooMany) = true)
    (eC_TooMany : PySem.W.subIn K (.ref c_TooMany) (.type "BaseException") = some true)
    (tC_TooMany : PySem.W.typeIn K (.ref c_TooMany) = some (.type "type"))
    (hC_TooMany : PySem.W.hasDictIn K c_TooMany = true)
    (iC_TooMany : PySem.W.isClsIn K c_TooMany = true)
    (s_BadNumber_BadNumber : PySem.W.subIn K (.ref c_BadNumber) (.ref c_BadNumber) = some true)
    (s_TooMany_BadNumber : PySem.W.subIn K (.ref c_TooMany) (.ref c_BadNumber) = some false)
    (s_BadNumber_TooMany : PySem.W.subIn K (.ref c_BadNumber) (.ref c_TooMany) = some false)
    (s_TooMany_TooMany : PySem.W.subIn K (.ref c_TooMany) (.ref c_TooMany) = some true) :
    ∃ fd : FuncData, (∀ (s : Shared) (v : Value), BindsTo s fd ⟨[v], []⟩ [("script", v)]) ∧ ∀ base : Heap, K.In base → base.Ns mainGlobals mg → FnOk l.prog w K mg base (L2.CX l.prog w) 9 fa fd ["script"] (spLaw K 63) := by
  have e := hfa.symm.trans (PySem.W.mg_of X G a_law)
  cases e
  have F_is_whole := fun_mk (st := st_is_whole) l_is_whole q_is_whole p_is_whole
  have F_whole_in := fun_mk (st := st_whole_in) l_whole_in q_whole_in p_whole_in
  have F_check_jobs := fun_mk (st := st_check_jobs) l_check_jobs q_check_jobs p_check_jobs
  have F_check_job_place := fun_mk (st := st_check_job_place) l_check_job_place q_check_job_place p_check_job_place
  have F_common_period := fun_mk (st := st_common_period) l_common_period q_common_period p_common_period
  have F_jobs_come := fun_mk (st := st_jobs_come) l_jobs_come q_jobs_come p_jobs_come
  have F_run_one_rung := fun_mk (st := st_run_one_rung) l_run_one_rung q_run_one_rung p_run_one_rung
  have F_first_miss := fun_mk (st := st_first_miss) l_first_miss q_first_miss p_first_miss
  have F_job_ends := fun_mk (st := st_job_ends) l_job_ends q_job_ends p_job_ends
  have F_rows_of_response := fun_mk (st := st_rows_of_response) l_rows_of_response q_rows_of_response p_rows_of_response
  have F_response := fun_mk (st := st_response) l_response q_response p_response
  have F_never_misses := fun_mk (st := st_never_misses) l_never_misses q_never_misses p_never_misses
  have F_law_numbers := fun_mk (st := st_law_numbers) l_law_numbers q_law_numbers p_law_numbers
  have F_law_draw := fun_mk (st := st_law_draw) l_law_draw q_law_draw p_law_draw
  have F_law_int := fun_mk (st := st_law_int) l_law_int q_law_int p_law_int
  have F_law_responses := fun_mk (st := st_law_responses) l_law_responses q_law_responses p_law_responses
  have F_law_common := fun_mk (st := st_law_common) l_law_common q_law_common p_law_common
  have F_law_times := fun_mk (st := st_law_times) l_law_times q_law_times p_law_times
  have F_law_offsets := fun_mk (st := st_law_offsets) l_law_offsets q_law_offsets p_law_offsets
  have F_law_at := fun_mk (st := st_law_at) l_law_at q_law_at p_law_at
  have F_law_rows_fit := fun_mk (st := st_law_rows_fit) l_law_rows_fit q_law_rows_fit p_law_rows_fit
  have F_law_refused := fun_mk (st := st_law_refused) l_law_refused q_law_refused p_law_refused
  have F_law_refusals_fit := fun_mk (st := st_law_refusals_fit) l_law_refusals_fit q_law_refusals_fit p_law_refusals_fit
  have F_law_drawn_fits := fun_mk (st := st_law_drawn_fits) l_law_drawn_fits q_law_drawn_fits p_law_drawn_fits
  have F_law := fun_mk (st := st_law) l_law q_law p_law
  have F_IBadNumber := fun_mk (st := sti_BadNumber) l_IBadNumber q_IBadNumber p_IBadNumber
  have F_ITooMany := fun_mk (st := sti_TooMany) l_ITooMany q_ITooMany p_ITooMany
  let Z : Zs := ⟨f_is_whole, PySem.W.fnOf "_is_whole" "_is_whole" (defArgs st_is_whole) (defBody st_is_whole) (defScope st_is_whole) .none kV_is_whole dc_is_whole pm_is_whole an_is_whole cd_is_whole ct_is_whole, f_whole_in, PySem.W.fnOf "_whole_in" "_whole_in" (defArgs st_whole_in) (defBody st_whole_in) (defScope st_whole_in) .none kV_whole_in dc_whole_in pm_whole_in an_whole_in cd_whole_in ct_whole_in, f_check_jobs, PySem.W.fnOf "_check_jobs" "_check_jobs" (defArgs st_check_jobs) (defBody st_check_jobs) (defScope st_check_jobs) .none kV_check_jobs dc_check_jobs pm_check_jobs an_check_jobs cd_check_jobs ct_check_jobs, f_check_job_place, PySem.W.fnOf "_check_job_place" "_check_job_place" (defArgs st_check_job_place) (defBody st_check_job_place) (defScope st_check_job_place) .none kV_check_job_place dc_check_job_place pm_check_job_place an_check_job_place cd_check_job_place ct_check_job_place, f_common_period, PySem.W.fnOf "_common_period" "_common_period" (defArgs st_common_period) (defBody st_common_period) (defScope st_common_period) .none kV_common_period dc_common_period pm_common_period an_common_period cd_common_period ct_common_period, f_jobs_come, PySem.W.fnOf "_jobs_come" "_jobs_come" (defArgs st_jobs_come) (defBody st_jobs_come) (defScope st_jobs_come) .none kV_jobs_come dc_jobs_come pm_jobs_come an_jobs_come cd_jobs_come ct_jobs_come, f_run_one_rung, PySem.W.fnOf "_run_one_rung" "_run_one_rung" (defArgs st_run_one_rung) (defBody st_run_one_rung) (defScope st_run_one_rung) .none kV_run_one_rung dc_run_one_rung pm_run_one_rung an_run_one_rung cd_run_one_rung ct_run_one_rung, f_first_miss, PySem.W.fnOf "first_miss" "first_miss" (defArgs st_first_miss) (defBody st_first_miss) (defScope st_first_miss) .none kV_first_miss dc_first_miss pm_first_miss an_first_miss cd_first_miss ct_first_miss, f_job_ends, PySem.W.fnOf "job_ends" "job_ends" (defArgs st_job_ends) (defBody st_job_ends) (defScope st_job_ends) .none kV_job_ends dc_job_ends pm_job_ends an_job_ends cd_job_ends ct_job_ends, f_rows_of_response, PySem.W.fnOf "rows_of_response" "rows_of_response" (defArgs st_rows_of_response) (defBody st_rows_of_response) (defScope st_rows_of_response) .none kV_rows_of_response dc_rows_of_response pm_rows_of_response an_rows_of_response cd_rows_of_response ct_rows_of_response, f_response, PySem.W.fnOf "response" "response" (defArgs st_response) (defBody st_response) (defScope st_response) .none kV_response dc_response pm_response an_response cd_response ct_response, f_never_misses, PySem.W.fnOf "never_misses" "never_misses" (defArgs st_never_misses) (defBody st_never_misses) (defScope st_never_misses) .none kV_never_misses dc_never_misses pm_never_misses an_never_misses cd_never_misses ct_never_misses, f_law_numbers, PySem.W.fnOf "_law_numbers" "_law_numbers" (defArgs st_law_numbers) (defBody st_law_numbers) (defScope st_law_numbers) .none kV_law_numbers dc_law_numbers pm_law_numbers an_law_numbers cd_law_numbers ct_law_numbers, f_law_draw, PySem.W.fnOf "_law_draw" "_law_draw" (defArgs st_law_draw) (defBody st_law_draw) (defScope st_law_draw) .none kV_law_draw dc_law_draw pm_law_draw an_law_draw cd_law_draw ct_law_draw, f_law_int, PySem.W.fnOf "_law_int" "_law_int" (defArgs st_law_int) (defBody st_law_int) (defScope st_law_int) .none kV_law_int dc_law_int pm_law_int an_law_int cd_law_int ct_law_int, f_law_responses, PySem.W.fnOf "_law_responses" "_law_responses" (defArgs st_law_responses) (defBody st_law_responses) (defScope st_law_responses) .none kV_law_responses dc_law_responses pm_law_responses an_law_responses cd_law_responses ct_law_responses, f_law_common, PySem.W.fnOf "_law_common" "_law_common" (defArgs st_law_common) (defBody st_law_common) (defScope st_law_common) .none kV_law_common dc_law_common pm_law_common an_law_common cd_law_common ct_law_common, f_law_times, PySem.W.fnOf "_law_times" "_law_times" (defArgs st_law_times) (defBody st_law_times) (defScope st_law_times) .none kV_law_times dc_law_times pm_law_times an_law_times cd_law_times ct_law_times, f_law_offsets, PySem.W.fnOf "_law_offsets" "_law_offsets" (defArgs st_law_offsets) (defBody st_law_offsets) (defScope st_law_offsets) .none kV_law_offsets dc_law_offsets pm_law_offsets an_law_offsets cd_law_offsets ct_law_offsets, f_law_at, PySem.W.fnOf "_law_at" "_law_at" (defArgs st_law_at) (defBody st_law_at) (defScope st_law_at) .none kV_law_at dc_law_at pm_law_at an_law_at cd_law_at ct_law_at, f_law_rows_fit, PySem.W.fnOf "_law_rows_fit" "_law_rows_fit" (defArgs st_law_rows_fit) (defBody st_law_rows_fit) (defScope st_law_rows_fit) .none kV_law_rows_fit dc_law_rows_fit pm_law_rows_fit an_law_rows_fit cd_law_rows_fit ct_law_rows_fit, f_law_refused, PySem.W.fnOf "_law_refused" "_law_refused" (defArgs st_law_refused) (defBody st_law_refused) (defScope st_law_refused) .none kV_law_refused dc_law_refused pm_law_refused an_law_refused cd_law_refused ct_law_refused, f_law_refusals_fit, PySem.W.fnOf "_law_refusals_fit" "_law_refusals_fit" (defArgs st_law_refusals_fit) (defBody st_law_refusals_fit) (defScope st_law_refusals_fit) .none kV_law_refusals_fit dc_law_refusals_fit pm_law_refusals_fit an_law_refusals_fit cd_law_refusals_fit ct_law_refusals_fit, f_law_drawn_fits, PySem.W.fnOf "_law_drawn_fits" "_law_drawn_fits" (defArgs st_law_drawn_fits) (defBody st_law_drawn_fits) (defScope st_law_drawn_fits) .none kV_law_drawn_fits dc_law_drawn_fits pm_law_drawn_fits an_law_drawn_fits cd_law_drawn_fits ct_law_drawn_fits, fa, PySem.W.fnOf "law" "law" (defArgs st_law) (defBody st_law) (defScope st_law) .none kV_law dc_law pm_law an_law cd_law ct_law, c_BadNumber, i_BadNumber, PySem.W.fnOf "__init__" "BadNumber.__init__" (defArgs sti_BadNumber) (defBody sti_BadNumber) (defScope sti_BadNumber) .none kV_IBadNumber dc_IBadNumber pm_IBadNumber an_IBadNumber cd_IBadNumber ct_IBadNumber, c_TooMany, i_TooMany, PySem.W.fnOf "__init__" "TooMany.__init__" (defArgs sti_TooMany) (defBody sti_TooMany) (defScope sti_TooMany) .none kV_ITooMany dc_ITooMany pm_ITooMany an_ITooMany cd_ITooMany ct_ITooMany, fun nm => if nm = "BadNumber" then c_BadNumber else if nm = "TooMany" then c_TooMany else 0⟩
  have T : Txt K mg Z := {
    z_all := PySem.W.mg_none_of X G z_all,
    z_bool := PySem.W.mg_none_of X G z_bool,
    z_enumerate := PySem.W.mg_none_of X G z_enumerate,
    z_int := PySem.W.mg_none_of X G z_int,
    z_isinstance := PySem.W.mg_none_of X G z_isinstance,
    z_len := PySem.W.mg_none_of X G z_len,
    z_list := PySem.W.mg_none_of X G z_list,
    z_max := PySem.W.mg_none_of X G z_max,
    z_min := PySem.W.mg_none_of X G z_min,
    z_range := PySem.W.mg_none_of X G z_range,
    z_str := PySem.W.mg_none_of X G z_str,
    z_sum := PySem.W.mg_none_of X G z_sum,
    z_tuple := PySem.W.mg_none_of X G z_tuple,
    k_LONGEST_JOB := ⟨_, PySem.W.mg_of X G k_LONGEST_JOB, ⟨_, rfl⟩⟩,
    k_MOST_JOBS := ⟨_, PySem.W.mg_of X G k_MOST_JOBS, ⟨_, rfl⟩⟩,
    k_MOST_RUNGS := ⟨_, PySem.W.mg_of X G k_MOST_RUNGS, ⟨_, rfl⟩⟩,
    k_MOST_TOLD := ⟨_, PySem.W.mg_of X G k_MOST_TOLD, ⟨_, rfl⟩⟩,
    i_lcm := PySem.W.mg_of X G m_lcm,
    d_is_whole := ⟨F_is_whole, PySem.W.mg_of X G a_is_whole, F_is_whole.binds (ps := ["value"]) fun _ _ _ _ _ _ us hl => match us, hl with | [_], _ => rfl⟩,
    d_whole_in := ⟨F_whole_in, PySem.W.mg_of X G a_whole_in, F_whole_in.binds (ps := ["value", "low", "high"]) fun _ _ _ _ _ _ us hl => match us, hl with | [_, _, _], _ => rfl⟩,
    d_check_jobs := ⟨F_check_jobs, PySem.W.mg_of X G a_check_jobs, F_check_jobs.binds (ps := ["jobs"]) fun _ _ _ _ _ _ us hl => match us, hl with | [_], _ => rfl⟩,
    d_check_job_place := ⟨F_check_job_place, PySem.W.mg_of X G a_check_job_place, F_check_job_place.binds (ps := ["jobs", "place"]) fun _ _ _ _ _ _ us hl => match us, hl with | [_, _], _ => rfl⟩,
    d_common_period := ⟨F_common_period, PySem.W.mg_of X G a_common_period, F_common_period.binds (ps := ["jobs"]) fun _ _ _ _ _ _ us hl => match us, hl with | [_], _ => rfl⟩,
    d_jobs_come := ⟨F_jobs_come, PySem.W.mg_of X G a_jobs_come, F_jobs_come.binds (ps := ["jobs", "left", "tick"]) fun _ _ _ _ _ _ us hl => match us, hl with | [_, _, _], _ => rfl⟩,
    d_run_one_rung := ⟨F_run_one_rung, PySem.W.mg_of X G a_run_one_rung, F_run_one_rung.binds (ps := ["left"]) fun _ _ _ _ _ _ us hl => match us, hl with | [_], _ => rfl⟩,
    d_first_miss := ⟨F_first_miss, PySem.W.mg_of X G a_first_miss, F_first_miss.binds (ps := ["jobs"]) fun _ _ _ _ _ _ us hl => match us, hl with | [_], _ => rfl⟩,
    d_job_ends := ⟨F_job_ends, PySem.W.mg_of X G a_job_ends, F_job_ends.binds (ps := ["jobs", "place", "many"]) fun _ _ _ _ _ _ us hl => match us, hl with | [_, _, _], _ => rfl⟩,
    d_rows_of_response := ⟨F_rows_of_response, PySem.W.mg_of X G a_rows_of_response, F_rows_of_response.binds (ps := ["jobs", "place"]) fun _ _ _ _ _ _ us hl => match us, hl with | [_, _], _ => rfl⟩,
    d_response := ⟨F_response, PySem.W.mg_of X G a_response, F_response.binds (ps := ["jobs", "place"]) fun _ _ _ _ _ _ us hl => match us, hl with | [_, _], _ => rfl⟩,
    d_never_misses := ⟨F_never_misses, PySem.W.mg_of X G a_never_misses, F_never_misses.binds (ps := ["jobs"]) fun _ _ _ _ _ _ us hl => match us, hl with | [_], _ => rfl⟩,
    d_law_numbers := ⟨F_law_numbers, PySem.W.mg_of X G a_law_numbers, F_law_numbers.binds (ps := ["script"]) fun _ _ _ _ _ _ us hl => match us, hl with | [_], _ => rfl⟩,
    d_law_draw := ⟨F_law_draw, PySem.W.mg_of X G a_law_draw, F_law_draw.binds (ps := ["numbers", "many"]) fun _ _ _ _ _ _ us hl => match us, hl with | [_, _], _ => rfl⟩,
    d_law_int := ⟨F_law_int, PySem.W.mg_of X G a_law_int, F_law_int.binds (ps := ["value"]) fun _ _ _ _ _ _ us hl => match us, hl with | [_], _ => rfl⟩,
    d_law_responses := ⟨F_law_responses, PySem.W.mg_of X G a_law_responses, F_law_responses.binds (ps := ["jobs", "place"]) fun _ _ _ _ _ _ us hl => match us, hl with | [_, _], _ => rfl⟩,
    d_law_common := ⟨F_law_common, PySem.W.mg_of X G a_law_common, F_law_common.binds (ps := ["jobs"]) fun _ _ _ _ _ _ us hl => match us, hl with | [_], _ => rfl⟩,
    d_law_times := ⟨F_law_times, PySem.W.mg_of X G a_law_times, F_law_times.binds (ps := ["jobs"]) fun _ _ _ _ _ _ us hl => match us, hl with | [_], _ => rfl⟩,
    d_law_offsets := ⟨F_law_offsets, PySem.W.mg_of X G a_law_offsets, F_law_offsets.binds (ps := ["jobs"]) fun _ _ _ _ _ _ us hl => match us, hl with | [_], _ => rfl⟩,
    d_law_at := ⟨F_law_at, PySem.W.mg_of X G a_law_at, F_law_at.binds (ps := ["jobs", "offsets"]) fun _ _ _ _ _ _ us hl => match us, hl with | [_, _], _ => rfl⟩,
    d_law_rows_fit := ⟨F_law_rows_fit, PySem.W.mg_of X G a_law_rows_fit, F_law_rows_fit.binds (ps := ["jobs"]) fun _ _ _ _ _ _ us hl => match us, hl with | [_], _ => rfl⟩,
    d_law_refused := ⟨F_law_refused, PySem.W.mg_of X G a_law_refused, F_law_refused.binds (ps := ["word", "jobs"]) fun _ _ _ _ _ _ us hl => match us, hl with | [_, _], _ => rfl⟩,
    d_law_refusals_fit := ⟨F_law_refusals_fit, PySem.W.mg_of X G a_law_refusals_fit, F_law_refusals_fit.binds (ps := ["numbers", "jobs"]) fun _ _ _ _ _ _ us hl => match us, hl with | [_, _], _ => rfl⟩,
    d_law_drawn_fits := ⟨F_law_drawn_fits, PySem.W.mg_of X G a_law_drawn_fits, F_law_drawn_fits.binds (ps := ["jobs", "asked"]) fun _ _ _ _ _ _ us hl => match us, hl with | [_, _], _ => rfl⟩,
    d_law := ⟨F_law, PySem.W.mg_of X G a_law, F_law.binds (ps := ["script"]) fun _ _ _ _ _ _ us hl => match us, hl with | [_], _ => rfl⟩,
    x_BadNumber := ⟨⟨⟨nm_BadNumber, qn_BadNumber, ns_BadNumber, bs_BadNumber, _, sn_BadNumber, sb_BadNumber, ab_BadNumber, col_BadNumber, dd_BadNumber, m0_BadNumber, m1_BadNumber, m2_BadNumber, m3_BadNumber, m5_BadNumber, xL_BadNumber, rfl⟩, sa_BadNumber, eC_BadNumber, tC_BadNumber, kC_BadNumber⟩, PySem.W.mg_of X G a_c_BadNumber, in_BadNumber, ti_BadNumber, F_IBadNumber, F_IBadNumber.binds (ps := ["self", "word"]) (fun _ _ _ _ _ _ us hl => match us, hl with | [_, _], _ => rfl), fun f hf => by simp only [List.mem_cons, List.not_mem_nil, or_false] at hf; subst hf; exact n_BadNumber_word, ⟨ga_BadNumber, gg_BadNumber, eC_BadNumber, hC_BadNumber⟩⟩,
    ec_BadNumber := (by show (if ("BadNumber" : Str) = "BadNumber" then c_BadNumber else if ("BadNumber" : Str) = "TooMany" then c_TooMany else 0) = c_BadNumber; rw [if_pos rfl]),
    x_TooMany := ⟨⟨⟨nm_TooMany, qn_TooMany, ns_TooMany, bs_TooMany, _, sn_TooMany, sb_TooMany, ab_TooMany, col_TooMany, dd_TooMany, m0_TooMany, m1_TooMany, m2_TooMany, m3_TooMany, m5_TooMany, xL_TooMany, rfl⟩, sa_TooMany, eC_TooMany, tC_TooMany, kC_TooMany⟩, PySem.W.mg_of X G a_c_TooMany, in_TooMany, ti_TooMany, F_ITooMany, F_ITooMany.binds (ps := ["self", "limit"]) (fun _ _ _ _ _ _ us hl => match us, hl with | [_, _], _ => rfl), fun f hf => by simp only [List.mem_cons, List.not_mem_nil, or_false] at hf; subst hf; exact n_TooMany_limit, ⟨ga_TooMany, gg_TooMany, eC_TooMany, hC_TooMany⟩⟩,
    ec_TooMany := (by show (if ("TooMany" : Str) = "BadNumber" then c_BadNumber else if ("TooMany" : Str) = "TooMany" then c_TooMany else 0) = c_TooMany; rw [if_neg (show ¬ (("TooMany" : Str) = "BadNumber") by decide), if_pos rfl]),
    sub_BadNumber := (fun nm r h => by
      unfold sub_BadNumber at h
      show PySem.W.exmOne K (.ref (if nm = "BadNumber" then c_BadNumber else if nm = "TooMany" then c_TooMany else 0)) (.ref c_BadNumber) = some r
      by_cases e_BadNumber : nm = "BadNumber"
      · rw [if_pos e_BadNumber] at h ⊢; cases h; exact exm_of eC_BadNumber iC_BadNumber tC_BadNumber s_BadNumber_BadNumber
      rw [if_neg e_BadNumber] at h ⊢
      by_cases e_TooMany : nm = "TooMany"
      · rw [if_pos e_TooMany] at h ⊢; cases h; exact exm_of eC_BadNumber iC_BadNumber tC_BadNumber s_TooMany_BadNumber
      rw [if_neg e_TooMany] at h ⊢
      cases h),
    sub_TooMany := (fun nm r h => by
      unfold sub_TooMany at h
      show PySem.W.exmOne K (.ref (if nm = "BadNumber" then c_BadNumber else if nm = "TooMany" then c_TooMany else 0)) (.ref c_TooMany) = some r
      by_cases e_BadNumber : nm = "BadNumber"
      · rw [if_pos e_BadNumber] at h ⊢; cases h; exact exm_of eC_TooMany iC_TooMany tC_TooMany s_BadNumber_TooMany
      rw [if_neg e_BadNumber] at h ⊢
      by_cases e_TooMany : nm = "TooMany"
      · rw [if_pos e_TooMany] at h ⊢; cases h; exact exm_of eC_TooMany iC_TooMany tC_TooMany s_TooMany_TooMany
      rw [if_neg e_TooMany] at h ⊢
      cases h) }
  exact ⟨PySem.W.fnOf "law" "law" (defArgs st_law) (defBody st_law) (defScope st_law) .none kV_law dc_law pm_law an_law cd_law ct_law, fun s v => .of_eq rfl, fun base _ _ => (ok_law (P := l.prog) (w := w) (base := base) T).imp fun vs H Q E q => law_sp hlaw q⟩
theorem walk (hlaw : ∀ ns : List Int, ns.length ≤ 63 → f_law ns = .nx true) {l : PySem.W.OpenLaw} {q : Program} {loose : List Str} {XP : (Str → Option Value) → Heap → Prop} {YP : World → Heap → Prop} {d : DefRec} {K : Params → PySem.W.Frag} (hn : l.most = some 63) (hdf : d.params.defaults = [])
    (hY : ∀ (w : World) (h : Heap), YP w h → (K w.params).In h)
    (F : ∀ (w : World) (mg : Str → Option Value) (fa : Addr) (h : Heap), (K w.params).In h → h.Ns mainGlobals mg → mg d.name = some (.ref fa) →
      ∃ fd : FuncData, (∀ (s : Shared) (u : Value), BindsTo s fd ⟨[u], []⟩ [("script", u)]) ∧ ∀ base : Heap, (K w.params).In base → base.Ns mainGlobals mg → FnOk l.prog w (K w.params) mg base (L2.CX l.prog w) 9 fa fd ["script"] (spLaw (K w.params) 63)) :
    PySem.W.WalkO q loose XP YP l.row.toRowW d [] (fun f vs => PySem.call f vs) :=
  L2.walk_of (n := 63) (k := 9) (x := "script") (CX := fun w => L2.CX l.prog w) (sp := fun w => spLaw (K w.params) 63) hn (by decide) hdf ⟨rfl, by decide, by decide⟩ hY F (fun _ _ a ns hl _ hS => ⟨a, ns, rfl, hS, hl, fun _ => rfl⟩) fun _ _ _ _ _ h => by
    obtain ⟨_, _, _, _, _, _, _, _, _, _, _, _, z⟩ := h
    exact z.elim
end Lw
open PySem PySem.W PyProof.Rows
set_option maxRecDepth 100000 in
set_option maxHeartbeats 0 in
theorem PySem.Challenge.cw_guardrungs_k77_whole_worst_over_all_offs_holds : PySem.Challenge.rw_guardrungs_k77_whole_worst_over_all_offs.Holds := by
  w_on; o_law; k_head; (case hw => w_witness2)
  k_fill
  refine Lw.walk Lw.law_true (l := PySem.Challenge.rw_guardrungs_k77_whole_worst_over_all_offs) rfl rfl (fun w h Y => PySem.W.kIn_of Y) ?F
  case F =>
    intro w mg fa h KX G hmg
    refine' Lw.all_mk Lw.law_true KX G hmg ?z_all ?z_bool ?z_enumerate ?z_int ?z_isinstance ?z_len ?z_list ?z_max ?z_min ?z_range ?z_str ?z_sum ?z_tuple ?k_LONGEST_JOB ?k_MOST_JOBS ?k_MOST_RUNGS ?k_MOST_TOLD ?m_lcm ?a_is_whole ?l_is_whole ?q_is_whole ?p_is_whole ?a_whole_in ?l_whole_in ?q_whole_in ?p_whole_in ?a_check_jobs ?l_check_jobs ?q_check_jobs ?p_check_jobs ?a_check_job_place ?l_check_job_place ?q_check_job_place ?p_check_job_place ?a_common_period ?l_common_period ?q_common_period ?p_common_period ?a_jobs_come ?l_jobs_come ?q_jobs_come ?p_jobs_come ?a_run_one_rung ?l_run_one_rung ?q_run_one_rung ?p_run_one_rung ?a_first_miss ?l_first_miss ?q_first_miss ?p_first_miss ?a_job_ends ?l_job_ends ?q_job_ends ?p_job_ends ?a_rows_of_response ?l_rows_of_response ?q_rows_of_response ?p_rows_of_response ?a_response ?l_response ?q_response ?p_response ?a_never_misses ?l_never_misses ?q_never_misses ?p_never_misses ?a_law_numbers ?l_law_numbers ?q_law_numbers ?p_law_numbers ?a_law_draw ?l_law_draw ?q_law_draw ?p_law_draw ?a_law_int ?l_law_int ?q_law_int ?p_law_int ?a_law_responses ?l_law_responses ?q_law_responses ?p_law_responses ?a_law_common ?l_law_common ?q_law_common ?p_law_common ?a_law_times ?l_law_times ?q_law_times ?p_law_times ?a_law_offsets ?l_law_offsets ?q_law_offsets ?p_law_offsets ?a_law_at ?l_law_at ?q_law_at ?p_law_at ?a_law_rows_fit ?l_law_rows_fit ?q_law_rows_fit ?p_law_rows_fit ?a_law_refused ?l_law_refused ?q_law_refused ?p_law_refused ?a_law_refusals_fit ?l_law_refusals_fit ?q_law_refusals_fit ?p_law_refusals_fit ?a_law_drawn_fits ?l_law_drawn_fits ?q_law_drawn_fits ?p_law_drawn_fits ?a_law ?l_law ?q_law ?p_law ?a_c_BadNumber ?xL_BadNumber ?sa_BadNumber ?ga_BadNumber ?gg_BadNumber ?n_BadNumber_word ?in_BadNumber ?ti_BadNumber ?l_IBadNumber ?q_IBadNumber ?p_IBadNumber ?kC_BadNumber ?eC_BadNumber ?tC_BadNumber ?hC_BadNumber ?iC_BadNumber ?a_c_TooMany ?xL_TooMany ?sa_TooMany ?ga_TooMany ?gg_TooMany ?n_TooMany_limit ?in_TooMany ?ti_TooMany ?l_ITooMany ?q_ITooMany ?p_ITooMany ?kC_TooMany ?eC_TooMany ?tC_TooMany ?hC_TooMany ?iC_TooMany ?s_BadNumber_BadNumber ?s_TooMany_BadNumber ?s_BadNumber_TooMany ?s_TooMany_TooMany
    (case z_all => k_is)
    (case z_bool => k_is)
    (case z_enumerate => k_is)
    (case z_int => k_is)
    (case z_isinstance => k_is)
    (case z_len => k_is)
    (case z_list => k_is)
    (case z_max => k_is)
    (case z_min => k_is)
    (case z_range => k_is)
    (case z_str => k_is)
    (case z_sum => k_is)
    (case z_tuple => k_is)
    (case k_LONGEST_JOB => k_is)
    (case k_MOST_JOBS => k_is)
    (case k_MOST_RUNGS => k_is)
    (case k_MOST_TOLD => k_is)
    (case m_lcm => k_is)
    (case a_is_whole => k_is)
    (case l_is_whole => k_is)
    (case q_is_whole => k_is)
    (case p_is_whole => k_is)
    (case a_whole_in => k_is)
    (case l_whole_in => k_is)
    (case q_whole_in => k_is)
    (case p_whole_in => k_is)
    (case a_check_jobs => k_is)
    (case l_check_jobs => k_is)
    (case q_check_jobs => k_is)
    (case p_check_jobs => k_is)
    (case a_check_job_place => k_is)
    (case l_check_job_place => k_is)
    (case q_check_job_place => k_is)
    (case p_check_job_place => k_is)
    (case a_common_period => k_is)
    (case l_common_period => k_is)
    (case q_common_period => k_is)
    (case p_common_period => k_is)
    (case a_jobs_come => k_is)
    (case l_jobs_come => k_is)
    (case q_jobs_come => k_is)
    (case p_jobs_come => k_is)
    (case a_run_one_rung => k_is)
    (case l_run_one_rung => k_is)
    (case q_run_one_rung => k_is)
    (case p_run_one_rung => k_is)
    (case a_first_miss => k_is)
    (case l_first_miss => k_is)
    (case q_first_miss => k_is)
    (case p_first_miss => k_is)
    (case a_job_ends => k_is)
    (case l_job_ends => k_is)
    (case q_job_ends => k_is)
    (case p_job_ends => k_is)
    (case a_rows_of_response => k_is)
    (case l_rows_of_response => k_is)
    (case q_rows_of_response => k_is)
    (case p_rows_of_response => k_is)
    (case a_response => k_is)
    (case l_response => k_is)
    (case q_response => k_is)
    (case p_response => k_is)
    (case a_never_misses => k_is)
    (case l_never_misses => k_is)
    (case q_never_misses => k_is)
    (case p_never_misses => k_is)
    (case a_law_numbers => k_is)
    (case l_law_numbers => k_is)
    (case q_law_numbers => k_is)
    (case p_law_numbers => k_is)
    (case a_law_draw => k_is)
    (case l_law_draw => k_is)
    (case q_law_draw => k_is)
    (case p_law_draw => k_is)
    (case a_law_int => k_is)
    (case l_law_int => k_is)
    (case q_law_int => k_is)
    (case p_law_int => k_is)
    (case a_law_responses => k_is)
    (case l_law_responses => k_is)
    (case q_law_responses => k_is)
    (case p_law_responses => k_is)
    (case a_law_common => k_is)
    (case l_law_common => k_is)
    (case q_law_common => k_is)
    (case p_law_common => k_is)
    (case a_law_times => k_is)
    (case l_law_times => k_is)
    (case q_law_times => k_is)
    (case p_law_times => k_is)
    (case a_law_offsets => k_is)
    (case l_law_offsets => k_is)
    (case q_law_offsets => k_is)
    (case p_law_offsets => k_is)
    (case a_law_at => k_is)
    (case l_law_at => k_is)
    (case q_law_at => k_is)
    (case p_law_at => k_is)
    (case a_law_rows_fit => k_is)
    (case l_law_rows_fit => k_is)
    (case q_law_rows_fit => k_is)
    (case p_law_rows_fit => k_is)
    (case a_law_refused => k_is)
    (case l_law_refused => k_is)
    (case q_law_refused => k_is)
    (case p_law_refused => k_is)
    (case a_law_refusals_fit => k_is)
    (case l_law_refusals_fit => k_is)
    (case q_law_refusals_fit => k_is)
    (case p_law_refusals_fit => k_is)
    (case a_law_drawn_fits => k_is)
    (case l_law_drawn_fits => k_is)
    (case q_law_drawn_fits => k_is)
    (case p_law_drawn_fits => k_is)
    (case a_law => k_is)
    (case l_law => k_is)
    (case q_law => k_is)
    (case p_law => k_is)
    (case a_c_BadNumber => k_is)
    (case xL_BadNumber => k_is)
    (case sa_BadNumber => k_is)
    (case ga_BadNumber => k_is)
    (case gg_BadNumber => k_is)
    (case n_BadNumber_word => k_is)
    (case in_BadNumber => k_is)
    (case ti_BadNumber => k_is)
    (case l_IBadNumber => k_is)
    (case q_IBadNumber => k_is)
    (case p_IBadNumber => k_is)
    (case kC_BadNumber => k_is)
    (case eC_BadNumber => k_is)
    (case tC_BadNumber => k_is)
    (case hC_BadNumber => k_is)
    (case iC_BadNumber => k_is)
    (case a_c_TooMany => k_is)
    (case xL_TooMany => k_is)
    (case sa_TooMany => k_is)
    (case ga_TooMany => k_is)
    (case gg_TooMany => k_is)
    (case n_TooMany_limit => k_is)
    (case in_TooMany => k_is)
    (case ti_TooMany => k_is)
    (case l_ITooMany => k_is)
    (case q_ITooMany => k_is)
    (case p_ITooMany => k_is)
    (case kC_TooMany => k_is)
    (case eC_TooMany => k_is)
    (case tC_TooMany => k_is)
    (case hC_TooMany => k_is)
    (case iC_TooMany => k_is)
    (case s_BadNumber_BadNumber => k_is)
    (case s_TooMany_BadNumber => k_is)
    (case s_BadNumber_TooMany => k_is)
    (case s_TooMany_TooMany => k_is)
#print axioms PySem.Challenge.cw_guardrungs_k77_whole_worst_over_all_offs_holds

