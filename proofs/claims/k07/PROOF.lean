import PyProof.Rows.All
import Wide.All
import OpenK.AllK
import Wide.FinOn
import HandS.ForMost
import HandS.Exc
import HandS.IsInst
import HandS.TupAny
import HandS.Walk
import HandS.Sort
import HandS.WordsExc
import HandS.ExcOwn
import HandS.ExcInit
import HandS.ExcField
import HandS.TryMany
import HandS.Gcd
import HandS.TupMul
import HandS.SortRule
import HandS.AnyAll
import HandS.TryOnly
import KE.GoesEnum
import KE.KMathGC
import PyProof.WalkInts
import PyProof.TupleIter
import HandS.Defaults
import HandS.CallSlots
import PyProof.Rows.SeqMore
import HandS.Zip
import HandS.Text
import HandS.Conv
import HandS.Set
import HandS.SetFor
import HandS.TupLe
import PyProof.Rows.StrMeet
import HandS.DictComp
import PySem.Challenge.RW_guardrungs_k07_least_swaps
set_option Elab.async false
set_option linter.all false
set_option maxRecDepth 100000
set_option maxHeartbeats 1000000
/-! Gv: values told by what they mean, slots, own cells -/
namespace Gv
open PySem L2

/-! ### outcomes -/
structure Er where
  c : Str
  fs : List (Str × PyData)
inductive O (ρ lam α : Type) where
  | nx (a : α) | rt (r : ρ) | bk (l : lam) | ct (l : lam) | er (x : Er) | stuck
abbrev R (α : Type) := O Empty Empty α
def O.bind {ρ lam α β : Type} (m : O ρ lam α) (f : α → O ρ lam β) : O ρ lam β :=
  match m with
  | .nx a => f a | .rt r => .rt r | .bk l => .bk l | .ct l => .ct l | .er x => .er x | .stuck => .stuck
/-- a computation of a value, then what follows -/
def bindR {ρ lam α β : Type} (m : R α) (f : α → O ρ lam β) : O ρ lam β :=
  match m with
  | .nx a => f a | .rt r => r.elim | .bk l => l.elim | .ct l => l.elim | .er x => .er x | .stuck => .stuck
def lt {β γ : Type} (e : β) (f : β → γ) : γ := f e
/-- a def's body is at its end -/
def fin {ρ α : Type} (m : O ρ Empty α) (d : α → R ρ) : R ρ :=
  match m with
  | .nx a => d a | .rt r => .nx r | .bk l => l.elim | .ct l => l.elim | .er x => .er x | .stuck => .stuck
/-- a for over items -/
def forO {ρ lam σ β : Type} (f : σ → β → O ρ σ σ) : List β → σ → O ρ lam σ
  | [], s => .nx s
  | x :: xs, s => match f s x with
    | .nx s' => forO f xs s' | .ct s' => forO f xs s' | .bk s' => .nx s' | .rt r => .rt r | .er x => .er x | .stuck => .stuck
/-- a while, at most so many turns -/
def whileO {ρ lam σ : Type} (c : σ → R (σ × Bool)) (f : σ → O ρ σ σ) : Nat → σ → O ρ lam σ
  | 0, _ => .stuck
  | n + 1, s => bindR (c s) fun sb => if sb.2 then (match f sb.1 with
    | .nx s' => whileO c f n s' | .ct s' => whileO c f n s' | .bk s' => .nx s' | .rt r => .rt r | .er x => .er x | .stuck => .stuck) else .nx sb.1
/-- a comprehension; nothing may be raised in it -/
def lcR {σ β γ : Type} (f : σ → β → R (σ × Option γ)) : List β → σ → List γ → R (σ × List γ)
  | [], s, acc => .nx (s, acc)
  | x :: xs, s, acc => match f s x with
    | .nx (s', none) => lcR f xs s' acc
    | .nx (s', some y) => if acc.length < 1000000 then lcR f xs s' (acc ++ [y]) else .stuck
    | _ => .stuck

def Out {ρ lam α : Type} (m : O ρ lam α) (N : α → Prop) (T : ρ → Prop) (B C : lam → Prop) (E : Er → Prop) : Prop :=
  match m with
  | .nx a => N a | .rt r => T r | .bk l => B l | .ct l => C l | .er x => E x | .stuck => False
def OutR {α : Type} (m : R α) (N : α → Prop) (E : Er → Prop) : Prop :=
  match m with
  | .nx a => N a | .rt r => r.elim | .bk l => l.elim | .ct l => l.elim | .er x => E x | .stuck => False
section
variable {ρ lam α β : Type} {N : α → Prop} {N' : β → Prop} {T : ρ → Prop} {B C : lam → Prop} {E : Er → Prop}
theorem Out.bindR {m : R α} {f : α → O ρ lam β} (h : Out (Gv.bindR m f) N' T B C E) : OutR m (fun a => Out (f a) N' T B C E) E := by
  cases m <;> first | exact h | (rename_i z; exact z.elim)
theorem Out.bind {m : O ρ lam α} {f : α → O ρ lam β} (h : Out (m.bind f) N' T B C E) : Out m (fun a => Out (f a) N' T B C E) T B C E := by
  cases m <;> exact h
theorem Out.lt {e : α} {f : α → O ρ lam β} (h : Out (Gv.lt e f) N' T B C E) : Out (f e) N' T B C E := h
theorem OutR.out {m : R α} {T : Empty → Prop} {B C : Empty → Prop} (h : OutR m N E) : Out m N T B C E := by
  cases m <;> first | exact h | (rename_i z; exact z.elim)
theorem Out.outR {m : R α} {T : Empty → Prop} {B C : Empty → Prop} (h : Out m N T B C E) : OutR m N E := by
  cases m <;> first | exact h | (rename_i z; exact z.elim)
theorem OutR.imp {m : R α} {N1 : α → Prop} {E1 : Er → Prop} (h : OutR m N E) (hn : ∀ a, N a → N1 a) (he : ∀ x, E x → E1 x) : OutR m N1 E1 := by
  cases m <;> first | exact hn _ h | exact he _ h | exact h | (rename_i z; exact z.elim)
theorem Out.imp {m : O ρ lam α} {N1 : α → Prop} {T1 : ρ → Prop} {B1 C1 : lam → Prop} {E1 : Er → Prop} (h : Out m N T B C E) (hn : ∀ a, N a → N1 a) (ht : ∀ a, T a → T1 a) (hb : ∀ a, B a → B1 a) (hc : ∀ a, C a → C1 a) (he : ∀ x, E x → E1 x) : Out m N1 T1 B1 C1 E1 := by
  cases m <;> first | exact hn _ h | exact ht _ h | exact hb _ h | exact hc _ h | exact he _ h | exact h
end

/-! ### what a value means -/
abbrev VP := PySem.W.Frag → V → Hp → Prop
def Hd (K : PySem.W.Frag) (p : VP) (v : V) (S : Hp) : Prop := ∃ S0, Same S0 S ∧ p K v S0
theorem Hd.mono {K : PySem.W.Frag} {p : VP} {v : V} {S S' : Hp} (h : Hd K p v S) (e : Same S S') : Hd K p v S' := by
  obtain ⟨S0, a, b⟩ := h
  exact ⟨S0, a.trans e, b⟩
theorem Hd.of {K : PySem.W.Frag} {p : VP} {v : V} {S : Hp} (h : p K v S) : Hd K p v S := ⟨S, Same.refl S, h⟩

abbrev Hds (K : PySem.W.Frag) (S : Hp) : List VP → List V → Prop := Paired fun p v => Hd K p v S
theorem Hds.mono {K : PySem.W.Frag} {ps : List VP} {vs : List V} {S S' : Hp} (h : Hds K S ps vs) (e : Same S S') : Hds K S' ps vs := Paired.mapP h fun _ _ q => q.mono e

inductive Cell where
  | lst (ps : List VP)
  | dk (kvs : List (Key × VP))
def CellOk (K : PySem.W.Frag) (S : Hp) : Cell → HO → Prop
  | .lst ps, o => ∃ vs, o = .lst vs ∧ Hds K S ps vs
  | .dk kvs, o => ∃ vs, o = .dK vs ∧ Paired (fun (p : Key × VP) (v : Key × V) => p.1 = v.1 ∧ Hd K p.2 v.2 S) kvs vs
theorem CellOk.mono {K : PySem.W.Frag} {S S' : Hp} (e : Same S S') : ∀ {c : Cell} {o : HO}, CellOk K S c o → CellOk K S' c o
  | .lst _, _, ⟨vs, h, q⟩ => ⟨vs, h, q.mono e⟩
  | .dk _, _, ⟨vs, h, q⟩ => ⟨vs, h, Paired.mapP q fun _ _ z => ⟨z.1, z.2.mono e⟩⟩

inductive Tm where
  | dat (p : VP)
  | own (oa : Option Addr) (c : Cell)
  | als (i : Nat)
  | bad

structure Gh where
  S0 : Hp
  F : Hp

structure Base (g : Gh) (S H : Hp) : Prop where
  s0 : Same g.S0 S
  sh : Same S H
  fh : Same g.F H
  fs : ∀ b, g.F b ≠ none → g.S0 b = none → S b = none

def OwnAt (K : PySem.W.Frag) (g : Gh) (S H : Hp) (v : V) (oa : Option Addr) (c : Cell) : Prop :=
  ∃ a o, v = .ref a ∧ (∀ b, oa = some b → b = a) ∧ S a = none ∧ g.F a = none ∧ H a = some o ∧ CellOk K S c o
def One (K : PySem.W.Frag) (g : Gh) (S H : Hp) (σ : St) (x : V × Tm) : Prop :=
  match x.2 with
  | .dat p => Hd K p x.1 S
  | .own oa c => OwnAt K g S H x.1 oa c
  | .als i => σ[i]? = some (some x.1)
  | .bad => False
def addrs : List (V × Tm) → List Addr
  | [] => []
  | (.ref a, .own _ _) :: r => a :: addrs r
  | _ :: r => addrs r
def pack : St → List (Option Tm) → List (V × Tm)
  | _, [] => []
  | σ, none :: Γ => pack σ.tail Γ
  | some v :: σ, some t :: Γ => (v, t) :: pack σ Γ
  | none :: σ, some _ :: Γ => (.non, .bad) :: pack σ Γ
  | [], some _ :: Γ => (.non, .bad) :: pack [] Γ

structure AtS (K : PySem.W.Frag) (g : Gh) (S : Hp) (Γ : List (Option Tm)) (σ : St) (τ : List (V × Tm)) (H : Hp) : Prop where
  base : Base g S H
  len : Γ.length ≤ σ.length
  all : ∀ x ∈ pack σ Γ ++ τ, One K g S H σ x
  ns : ∀ x ∈ pack σ Γ, ∀ j, x.2 ≠ .als j
  al : ∀ x ∈ τ, ∀ k, x.2 = .als k → ∃ oa c, Γ[k]? = some (some (.own oa c))
  nd : (addrs (pack σ Γ ++ τ)).Nodup
def At (K : PySem.W.Frag) (g : Gh) (Γ : List (Option Tm)) (σ : St) (τ : List (V × Tm)) (H : Hp) : Prop := ∃ S, AtS K g S Γ σ τ H

/-! ### lists of entries -/
theorem addrs_append : ∀ l m : List (V × Tm), addrs (l ++ m) = addrs l ++ addrs m
  | [], m => rfl
  | (v, t) :: l, m => by
    have ih := addrs_append l m
    cases v <;> cases t <;> simp [addrs, ih]
theorem addrs_perm {l m : List (V × Tm)} (h : l.Perm m) : (addrs l).Perm (addrs m) := by
  induction h with
  | nil => exact .nil
  | cons x _ ih =>
    obtain ⟨v, t⟩ := x
    cases v <;> cases t <;> simp only [addrs] <;> first | exact ih | exact ih.cons _
  | swap x y l =>
    obtain ⟨v, t⟩ := x
    obtain ⟨u, s⟩ := y
    cases v <;> cases t <;> cases u <;> cases s <;> simp only [addrs] <;> first | exact .refl _ | exact .swap _ _ _
  | trans _ _ a b => exact a.trans b
theorem addrs_sub {l m : List (V × Tm)} (h : l.Sublist m) : (addrs l).Sublist (addrs m) := by
  induction h with
  | slnil => exact .slnil
  | cons x _ ih =>
    obtain ⟨v, t⟩ := x
    cases v <;> cases t <;> simp only [addrs] <;> first | exact ih | exact ih.cons _
  | cons_cons x _ ih =>
    obtain ⟨v, t⟩ := x
    cases v <;> cases t <;> simp only [addrs] <;> first | exact ih | exact ih.cons_cons _
theorem addrs_mem {l : List (V × Tm)} {a : Addr} (h : a ∈ addrs l) : ∃ oa c, (V.ref a, Tm.own oa c) ∈ l := by
  induction l with
  | nil => simp [addrs] at h
  | cons x r ih =>
    obtain ⟨v, t⟩ := x
    have go : a ∈ addrs r → ∃ oa c, (V.ref a, Tm.own oa c) ∈ (v, t) :: r := fun h => by
      obtain ⟨oa, c, q⟩ := ih h
      exact ⟨oa, c, List.mem_cons_of_mem _ q⟩
    cases v with
    | ref b =>
      cases t with
      | own oa c =>
        simp only [addrs, List.mem_cons] at h
        rcases h with rfl | h
        · exact ⟨oa, c, List.mem_cons_self⟩
        · exact go h
      | _ => exact go h
    | _ => cases t <;> exact go h
theorem mem_addrs {l : List (V × Tm)} {a : Addr} {oa : Option Addr} {c : Cell} (h : (V.ref a, Tm.own oa c) ∈ l) : a ∈ addrs l := by
  induction l with
  | nil => simp at h
  | cons x r ih =>
    rcases List.mem_cons.mp h with e | h
    · subst e; simp [addrs]
    · have := ih h
      obtain ⟨v, t⟩ := x
      cases v <;> cases t <;> simp [addrs, this]

/-! ### slots -/
theorem pack_get : ∀ {Γ : List (Option Tm)} {σ : St} {i : Nat} {t : Tm}, Γ[i]? = some (some t) → Γ.length ≤ σ.length →
    (∃ v, σ[i]? = some (some v) ∧ (pack σ Γ).Perm ((v, t) :: pack σ (Γ.set i none))) ∨ (V.non, Tm.bad) ∈ pack σ Γ
  | [], _, _, _, h, _ => by simp at h
  | x :: Γ, [], _, _, _, l => by simp at l
  | x :: Γ, y :: σ, 0, t, h, l => by
    simp only [List.getElem?_cons_zero, Option.some.injEq] at h
    subst h
    cases y with
    | none => exact .inr (by simp [pack])
    | some v => exact .inl ⟨v, by simp, by simp [pack]⟩
  | x :: Γ, y :: σ, i + 1, t, h, l => by
    have h' : Γ[i]? = some (some t) := by simpa using h
    have l' : Γ.length ≤ σ.length := by simpa using l
    rcases pack_get h' l' with ⟨v, e, p⟩ | b
    · refine .inl ⟨v, by simpa using e, ?_⟩
      cases x with
      | none => simpa [pack] using p
      | some u =>
        cases y with
        | none => exact (List.Perm.cons _ p).trans (.swap _ _ _)
        | some z => exact (List.Perm.cons _ p).trans (.swap _ _ _)
    · refine .inr ?_
      cases x with
      | none => simpa [pack] using b
      | some u => cases y <;> simp [pack, b]
theorem pack_drop : ∀ (Γ : List (Option Tm)) (σ : St) (i : Nat), (pack σ (Γ.set i none)).Sublist (pack σ Γ)
  | [], σ, i => by simp [pack]
  | x :: Γ, [], 0 => by
    cases x with
    | none => simp [pack]
    | some u => simp [pack]
  | x :: Γ, y :: σ, 0 => by
    cases x with
    | none => simp [pack]
    | some u => cases y <;> simp [pack]
  | x :: Γ, [], i + 1 => by
    have := pack_drop Γ [] i
    cases x with
    | none => simpa [pack] using this
    | some u => simpa [pack] using this
  | x :: Γ, y :: σ, i + 1 => by
    have := pack_drop Γ σ i
    cases x with
    | none => simpa [pack] using this
    | some u => cases y <;> simpa [pack] using this
theorem pack_set : ∀ {Γ : List (Option Tm)} {σ : St} {i : Nat} (v : V) (t : Tm), i < Γ.length → Γ.length ≤ σ.length →
    (pack (σ.set i (some v)) (Γ.set i (some t))).Perm ((v, t) :: pack σ (Γ.set i none))
  | [], _, _, _, _, h, _ => by simp at h
  | x :: Γ, [], _, _, _, _, l => by simp at l
  | x :: Γ, y :: σ, 0, v, t, _, _ => by simp [pack]
  | x :: Γ, y :: σ, i + 1, v, t, h, l => by
    have ih := pack_set (Γ := Γ) (σ := σ) (i := i) v t (by simpa using h) (by simpa using l)
    cases x with
    | none => simpa [pack] using ih
    | some u =>
      cases y with
      | none => exact (List.Perm.cons _ ih).trans (.swap _ _ _)
      | some z => exact (List.Perm.cons _ ih).trans (.swap _ _ _)
theorem pack_none : ∀ (Γ : List (Option Tm)) (σ : St) (i : Nat) (x : Option V), pack (σ.set i x) (Γ.set i none) = pack σ (Γ.set i none)
  | [], σ, i, x => by simp [pack]
  | y :: Γ, [], i, x => by simp
  | y :: Γ, z :: σ, 0, x => by simp [pack]
  | y :: Γ, z :: σ, i + 1, x => by
    have ih := pack_none Γ σ i x
    cases y with
    | none => simpa [pack] using ih
    | some u => cases z <;> simpa [pack] using ih

/-- less is told -/
inductive Le : List (Option Tm) → List (Option Tm) → Prop
  | nil {G : List (Option Tm)} : Le [] G
  | s {x : Option Tm} {G G' : List (Option Tm)} : Le G G' → Le (x :: G) (x :: G')
  | d {x : Option Tm} {G G' : List (Option Tm)} : Le G G' → Le (none :: G) (x :: G')

/-! ### the laws of At -/
section
variable {K : PySem.W.Frag} {g : Gh} {S H : Hp} {Γ : List (Option Tm)} {σ : St} {τ : List (V × Tm)} {v : V} {t : Tm} {p : VP} {ps : List VP} {i : Nat}
theorem One.keep {H' S' : Hp} (e : Same S S') (k : ∀ a, (∃ oa c, t = .own oa c) → v = .ref a → S' a = S a ∧ H' a = H a) (h : One K g S H σ (v, t)) : One K g S' H' σ (v, t) := by
  cases t with
  | dat p => exact Hd.mono h e
  | own oa c =>
    obtain ⟨a, o, rfl, h1, h2, h3, h4, h5⟩ := h
    obtain ⟨k1, k2⟩ := k a ⟨_, _, rfl⟩ rfl
    exact ⟨a, o, rfl, h1, k1.trans h2, h3, k2.trans h4, h5.mono e⟩
  | als i => exact h
  | bad => exact h

theorem AtS.perm {τ' : List (V × Tm)} (h : AtS K g S Γ σ τ H) (p : τ.Perm τ') : AtS K g S Γ σ τ' H :=
  ⟨h.base, h.len, fun x hx => h.all x ((p.append_left _).mem_iff.mpr hx), h.ns, fun x hx => h.al x (p.mem_iff.mpr hx), (addrs_perm (p.append_left _)).nodup_iff.mp h.nd⟩
theorem AtS.pop {x : V × Tm} (h : AtS K g S Γ σ (x :: τ) H) : AtS K g S Γ σ τ H := by
  have sub : (pack σ Γ ++ τ).Sublist (pack σ Γ ++ x :: τ) := List.Sublist.append_left (List.sublist_cons_self _ _) _
  exact ⟨h.base, h.len, fun y hy => h.all y (sub.subset hy), h.ns, fun y hy => h.al y (List.mem_cons_of_mem _ hy), h.nd.sublist (addrs_sub sub)⟩
theorem At.pop {x : V × Tm} (h : At K g Γ σ (x :: τ) H) : At K g Γ σ τ H := by
  obtain ⟨S, h⟩ := h
  exact ⟨S, h.pop⟩
theorem At.pop2 {x y : V × Tm} (h : At K g Γ σ (x :: y :: τ) H) : At K g Γ σ τ H := h.pop.pop
theorem AtS.top (h : AtS K g S Γ σ ((v, t) :: τ) H) : One K g S H σ (v, t) := h.all _ (by simp)
theorem AtS.push (h : AtS K g S Γ σ τ H) (q : Hd K p v S) : AtS K g S Γ σ ((v, .dat p) :: τ) H := by
  refine ⟨h.base, h.len, fun x hx => ?_, h.ns, fun x hx k e => ?_, ?_⟩
  · rcases List.mem_append.mp hx with hx | hx
    · exact h.all x (List.mem_append_left _ hx)
    · rcases List.mem_cons.mp hx with rfl | hx
      · exact q
      · exact h.all x (List.mem_append_right _ hx)
  · rcases List.mem_cons.mp hx with rfl | hx
    · cases e
    · exact h.al x hx k e
  · have e : addrs (pack σ Γ ++ (v, Tm.dat p) :: τ) = addrs (pack σ Γ ++ τ) := by
      rw [addrs_append, addrs_append]
      cases v <;> simp [addrs]
    rw [e]
    exact h.nd
theorem AtS.pushAls {oa : Option Addr} {c : Cell} (h : AtS K g S Γ σ τ H) (q : σ[i]? = some (some v)) (hg : Γ[i]? = some (some (.own oa c))) : AtS K g S Γ σ ((v, .als i) :: τ) H := by
  refine ⟨h.base, h.len, fun x hx => ?_, h.ns, fun x hx k e => ?_, ?_⟩
  · rcases List.mem_append.mp hx with hx | hx
    · exact h.all x (List.mem_append_left _ hx)
    · rcases List.mem_cons.mp hx with rfl | hx
      · exact q
      · exact h.all x (List.mem_append_right _ hx)
  · rcases List.mem_cons.mp hx with rfl | hx
    · cases e
      exact ⟨oa, c, hg⟩
    · exact h.al x hx k e
  · have e : addrs (pack σ Γ ++ (v, Tm.als i) :: τ) = addrs (pack σ Γ ++ τ) := by
      rw [addrs_append, addrs_append]
      cases v <;> simp [addrs]
    rw [e]
    exact h.nd
theorem AtS.slot (h : AtS K g S Γ σ τ H) (e : Γ[i]? = some (some t)) : ∃ v, σ[i]? = some (some v) ∧ One K g S H σ (v, t) ∧ (pack σ Γ).Perm ((v, t) :: pack σ (Γ.set i none)) := by
  rcases pack_get e h.len with ⟨v, h1, h2⟩ | b
  · exact ⟨v, h1, h.all _ (List.mem_append_left _ (h2.mem_iff.mpr List.mem_cons_self)), h2⟩
  · exact (h.all _ (List.mem_append_left _ b)).elim
/-- an object is laid and belongs to what stands still -/
theorem AtS.lay {a : Addr} {o : HO} (h : AtS K g S Γ σ τ H) (n : H a = none) : AtS K g (upd S a o) Γ σ τ (upd H a o) := by
  have nS : S a = none := by
    cases e : S a with
    | none => rfl
    | some u => rw [h.base.sh a u e] at n; cases n
  have nF : g.F a = none := by
    cases e : g.F a with
    | none => rfl
    | some u => rw [h.base.fh a u e] at n; cases n
  have e1 : Same S (upd S a o) := fun b u e => by rw [upd_ne (ne_of_none e nS)]; exact e
  refine ⟨⟨h.base.s0.trans e1, fun b u e => ?_, fun b u e => ?_, fun b hb h0 => ?_⟩, h.len, fun x hx => ?_, h.ns, h.al, h.nd⟩
  · by_cases hb : b = a
    · subst hb; rw [upd_same] at e ⊢; exact e
    · rw [upd_ne hb] at e ⊢; exact h.base.sh b u e
  · rw [upd_ne (ne_of_none e nF)]; exact h.base.fh b u e
  · have : b ≠ a := fun z => hb (z ▸ nF)
    rw [upd_ne this]; exact h.base.fs b hb h0
  · obtain ⟨v, t⟩ := x
    have q := h.all _ hx
    refine q.keep e1 fun b ht hv => ?_
    obtain ⟨oa, c, rfl⟩ := ht
    subst hv
    obtain ⟨a', o', ea, _, _, _, h4, _⟩ := q
    cases ea
    have : b ≠ a := ne_of_none h4 n
    rw [upd_ne this, upd_ne this]
    exact ⟨rfl, rfl⟩
/-- a new own cell -/
theorem AtS.freshA {a : Addr} {o : HO} {c : Cell} {oa : Option Addr} (hoa : ∀ b, oa = some b → b = a) (h : AtS K g S Γ σ τ H) (n : H a = none) (k : CellOk K S c o) : AtS K g S Γ σ ((.ref a, .own oa c) :: τ) (upd H a o) := by
  have nS : S a = none := by
    cases e : S a with
    | none => rfl
    | some u => rw [h.base.sh a u e] at n; cases n
  have nF : g.F a = none := by
    cases e : g.F a with
    | none => rfl
    | some u => rw [h.base.fh a u e] at n; cases n
  have old : ∀ x ∈ pack σ Γ ++ τ, One K g S (upd H a o) σ x := fun x hx => by
    obtain ⟨v, t⟩ := x
    have q := h.all _ hx
    refine q.keep (Same.refl S) fun b ht hv => ⟨rfl, ?_⟩
    obtain ⟨oa', c', rfl⟩ := ht
    subst hv
    obtain ⟨a', o', ea, _, _, _, h4, _⟩ := q
    cases ea
    exact upd_ne (ne_of_none h4 n)
  refine ⟨⟨h.base.s0, fun b u e => ?_, fun b u e => ?_, h.base.fs⟩, h.len, fun x hx => ?_, h.ns, fun x hx k e => ?_, ?_⟩
  · rw [upd_ne (ne_of_none e nS)]; exact h.base.sh b u e
  · rw [upd_ne (ne_of_none e nF)]; exact h.base.fh b u e
  · rcases List.mem_append.mp hx with hx | hx
    · exact old x (List.mem_append_left _ hx)
    · rcases List.mem_cons.mp hx with rfl | hx
      · exact ⟨a, o, rfl, hoa, nS, nF, upd_same, k⟩
      · exact old x (List.mem_append_right _ hx)
  · rcases List.mem_cons.mp hx with rfl | hx
    · cases e
    · exact h.al x hx k e
  · have p : (pack σ Γ ++ (V.ref a, Tm.own oa c) :: τ).Perm ((V.ref a, Tm.own oa c) :: (pack σ Γ ++ τ)) := List.perm_middle
    refine (addrs_perm p).nodup_iff.mpr ?_
    show (a :: addrs (pack σ Γ ++ τ)).Nodup
    refine List.nodup_cons.mpr ⟨fun hm => ?_, h.nd⟩
    obtain ⟨oa', c', hx⟩ := addrs_mem hm
    obtain ⟨a', o', ea, _, _, _, h4, _⟩ := h.all _ hx
    cases ea
    rw [n] at h4; cases h4
theorem AtS.fresh {a : Addr} {o : HO} {c : Cell} (h : AtS K g S Γ σ τ H) (n : H a = none) (k : CellOk K S c o) : AtS K g S Γ σ ((.ref a, .own none c) :: τ) (upd H a o) :=
  h.freshA (fun b z => nomatch z) n k
/-- the own cell on top stands still from now on -/
theorem AtS.freeze {oa : Option Addr} {c : Cell} (h : AtS K g S Γ σ ((v, .own oa c) :: τ) H) :
    ∃ a o, v = .ref a ∧ H a = some o ∧ S a = none ∧ CellOk K S c o ∧ AtS K g (upd S a o) Γ σ τ H := by
  obtain ⟨a, o, rfl, h1, nS, nF, h4, h5⟩ := h.top
  refine ⟨a, o, rfl, h4, nS, h5, ?_⟩
  have e1 : Same S (upd S a o) := fun b u e => by rw [upd_ne (ne_of_none e nS)]; exact e
  have p : (pack σ Γ ++ (V.ref a, Tm.own oa c) :: τ).Perm ((V.ref a, Tm.own oa c) :: (pack σ Γ ++ τ)) := List.perm_middle
  have nd : (a :: addrs (pack σ Γ ++ τ)).Nodup := (addrs_perm p).nodup_iff.mp h.nd
  obtain ⟨n1, n2⟩ := List.nodup_cons.mp nd
  refine ⟨⟨h.base.s0.trans e1, fun b u e => ?_, h.base.fh, fun b hb h0 => ?_⟩, h.len, fun x hx => ?_, h.ns, fun x hx => h.al x (List.mem_cons_of_mem _ hx), n2⟩
  · by_cases hb : b = a
    · subst hb; rw [upd_same] at e; rw [← e]; exact h4
    · rw [upd_ne hb] at e; exact h.base.sh b u e
  · have : b ≠ a := fun z => hb (z ▸ nF)
    rw [upd_ne this]; exact h.base.fs b hb h0
  · obtain ⟨v, t⟩ := x
    have q := h.all _ (p.mem_iff.mpr (List.mem_cons_of_mem _ hx))
    refine q.keep e1 fun b ht hv => ⟨?_, rfl⟩
    obtain ⟨oa', c', rfl⟩ := ht
    subst hv
    exact upd_ne fun z => n1 (by rw [← z]; exact mem_addrs hx)
/-- the cell of slot i is changed -/
theorem AtS.write {oa : Option Addr} {c c' : Cell} {o' : HO} (h : AtS K g S Γ σ τ H) (e : Γ[i]? = some (some (.own oa c))) (k : CellOk K S c' o') :
    ∃ a o, σ[i]? = some (some (.ref a)) ∧ H a = some o ∧ CellOk K S c o ∧ AtS K g S (Γ.set i (some (.own oa c'))) σ τ (upd H a o') := by
  obtain ⟨v, e1, q, p⟩ := h.slot e
  obtain ⟨a, o, rfl, h1, nS, nF, h4, h5⟩ := q
  refine ⟨a, o, e1, h4, h5, ?_⟩
  have hi : i < Γ.length := (List.getElem?_eq_some_iff.mp e).1
  have p1 : (pack σ Γ ++ τ).Perm ((V.ref a, Tm.own oa c) :: (pack σ (Γ.set i none) ++ τ)) := List.Perm.append_right τ p
  have hs : σ.set i (some (.ref a)) = σ := by
    apply List.ext_getElem?
    intro j
    by_cases hj : i = j
    · subst hj
      rw [List.getElem?_set_self (List.getElem?_eq_some_iff.mp e1).1, e1]
    · rw [List.getElem?_set_ne hj]
  have p2 : (pack σ (Γ.set i (some (.own oa c'))) ++ τ).Perm ((V.ref a, Tm.own oa c') :: (pack σ (Γ.set i none) ++ τ)) := by
    have := List.Perm.append_right τ (pack_set (Γ := Γ) (σ := σ) (i := i) (V.ref a) (.own oa c') hi h.len)
    rw [hs] at this
    exact this
  have nd : (a :: addrs (pack σ (Γ.set i none) ++ τ)).Nodup := (addrs_perm p1).nodup_iff.mp h.nd
  obtain ⟨n1, n2⟩ := List.nodup_cons.mp nd
  refine ⟨⟨h.base.s0, fun b u z => ?_, fun b u z => ?_, h.base.fs⟩, by rw [List.length_set]; exact h.len, fun x hx => ?_, fun x hx j => ?_, fun x hx j ej => ?_, (addrs_perm p2).nodup_iff.mpr nd⟩
  · rw [upd_ne (ne_of_none z nS)]; exact h.base.sh b u z
  · rw [upd_ne (ne_of_none z nF)]; exact h.base.fh b u z
  · rcases List.mem_cons.mp (p2.mem_iff.mp hx) with rfl | hx
    · exact ⟨a, o', rfl, h1, nS, nF, upd_same, k⟩
    · obtain ⟨v, t⟩ := x
      have q := h.all _ (p1.mem_iff.mpr (List.mem_cons_of_mem _ hx))
      refine q.keep (Same.refl S) fun b ht hv => ⟨rfl, ?_⟩
      obtain ⟨oa', c'', rfl⟩ := ht
      subst hv
      exact upd_ne fun z => n1 (by rw [← z]; exact mem_addrs hx)
  · have q := pack_set (Γ := Γ) (σ := σ) (i := i) (V.ref a) (.own oa c') hi h.len
    rw [hs] at q
    rcases List.mem_cons.mp (q.mem_iff.mp hx) with rfl | hx
    · intro z; cases z
    · exact h.ns x ((pack_drop Γ σ i).subset hx) j
  · obtain ⟨oa2, c2, e2⟩ := h.al x hx j ej
    by_cases hj : i = j
    · subst hj
      exact ⟨oa, c', List.getElem?_set_self hi⟩
    · exact ⟨oa2, c2, by rw [List.getElem?_set_ne hj]; exact e2⟩
/-- slot i takes the value on top; nothing else on the stack stands for slot i -/
theorem AtS.set (h : AtS K g S Γ σ ((v, t) :: τ) H) (hi : i < Γ.length) (ht : ∀ j, t ≠ .als j) (hτ : ∀ x ∈ τ, ∀ k, x.2 = .als k → k ≠ i) : AtS K g S (Γ.set i (some t)) (σ.set i (some v)) τ H := by
  have p := pack_set (Γ := Γ) (σ := σ) (i := i) v t hi h.len
  have sub : ((v, t) :: (pack σ (Γ.set i none) ++ τ)).Sublist ((v, t) :: (pack σ Γ ++ τ)) := ((pack_drop Γ σ i).append_right τ).cons_cons _
  have p2 : (pack σ Γ ++ (v, t) :: τ).Perm ((v, t) :: (pack σ Γ ++ τ)) := List.perm_middle
  have p3 : (pack (σ.set i (some v)) (Γ.set i (some t)) ++ τ).Perm ((v, t) :: (pack σ (Γ.set i none) ++ τ)) := p.append_right τ
  refine ⟨h.base, by rw [List.length_set, List.length_set]; exact h.len, fun x hx => ?_, fun x hx j => ?_, fun x hx k e => ?_, ?_⟩
  · have hx2 := p3.mem_iff.mp hx
    have hx3 := p2.mem_iff.mpr (sub.subset hx2)
    have q := h.all x hx3
    obtain ⟨v', t'⟩ := x
    cases t' with
    | als j =>
      rcases List.mem_cons.mp hx2 with e | hm
      · cases e; exact absurd rfl (ht j)
      · rcases List.mem_append.mp hm with hm | hm
        · exact absurd rfl (h.ns _ ((pack_drop Γ σ i).subset hm) j)
        · have q' : σ[j]? = some (some v') := q
          show (σ.set i (some v))[j]? = some (some v')
          rw [List.getElem?_set_ne (Ne.symm (hτ _ hm j rfl))]; exact q'
    | dat _ => exact q
    | own _ _ => exact q
    | bad => exact q
  · rcases List.mem_cons.mp (p.mem_iff.mp hx) with rfl | hm
    · exact ht j
    · exact h.ns _ ((pack_drop Γ σ i).subset hm) j
  · obtain ⟨oa, c, q⟩ := h.al x (List.mem_cons_of_mem _ hx) k e
    exact ⟨oa, c, by rw [List.getElem?_set_ne (Ne.symm (hτ x hx k e))]; exact q⟩
  · exact (addrs_perm p3).nodup_iff.mpr (((addrs_perm p2).nodup_iff.mp h.nd).sublist (addrs_sub sub))
/-- a slot that nothing is told of may hold anything -/
theorem AtS.any (h : AtS K g S Γ σ τ H) (hn : Γ[i]? = some none ∨ Γ[i]? = none) (x : Option V) : AtS K g S Γ (σ.set i x) τ H := by
  have eΓ : Γ.set i none = Γ := by
    apply List.ext_getElem?
    intro j
    by_cases hj : i = j
    · subst hj
      rcases hn with hn | hn
      · rw [List.getElem?_set_self (List.getElem?_eq_some_iff.mp hn).1, hn]
      · rw [List.set_eq_of_length_le (List.getElem?_eq_none_iff.mp hn)]
    · rw [List.getElem?_set_ne hj]
  have e : pack (σ.set i x) Γ = pack σ Γ := by
    have := pack_none Γ σ i x
    rw [eΓ] at this
    exact this
  refine ⟨h.base, by rw [List.length_set]; exact h.len, fun y hy => ?_, by rw [e]; exact h.ns, h.al, by rw [e]; exact h.nd⟩
  rw [e] at hy
  have q := h.all y hy
  obtain ⟨v', t'⟩ := y
  cases t' with
  | als k =>
    show (σ.set i x)[k]? = some (some v')
    have q' : σ[k]? = some (some v') := q
    have hk : i ≠ k := fun z => by
      rcases List.mem_append.mp hy with hm | hm
      · exact h.ns _ hm k rfl
      · obtain ⟨oa, c, q2⟩ := h.al _ hm k rfl
        rw [← z] at q2
        rcases hn with hn | hn <;> rw [hn] at q2 <;> cases q2
    rw [List.getElem?_set_ne hk]; exact q'
  | dat _ => exact q
  | own _ _ => exact q
  | bad => exact q
theorem Le.refl : ∀ Γ : List (Option Tm), Le Γ Γ
  | [] => .nil
  | _ :: Γ => .s (Le.refl Γ)
theorem Le.len {Γ Γ' : List (Option Tm)} (h : Le Γ Γ') : Γ.length ≤ Γ'.length := by
  induction h <;> simp_all
theorem Le.sub {Γ Γ' : List (Option Tm)} (h : Le Γ Γ') : ∀ σ : St, (pack σ Γ).Sublist (pack σ Γ') := by
  induction h with
  | nil => intro σ; simp [pack]
  | @s x _ _ _ ih =>
    intro σ
    cases x with
    | none => simpa [pack] using ih σ.tail
    | some t =>
      cases σ with
      | nil => simpa [pack] using ih []
      | cons y σ => cases y <;> simpa [pack] using ih σ
  | @d x _ _ _ ih =>
    intro σ
    cases x with
    | none => simpa [pack] using ih σ.tail
    | some t =>
      cases σ with
      | nil => simpa [pack] using (ih []).cons _
      | cons y σ => cases y <;> simpa [pack] using (ih σ).cons _
theorem At.weak {Γ' : List (Option Tm)} (h : At K g Γ σ [] H) (l : Le Γ' Γ) : At K g Γ' σ [] H := by
  obtain ⟨S, h⟩ := h
  have sub : (pack σ Γ' ++ []).Sublist (pack σ Γ ++ []) := (l.sub σ).append_right []
  exact ⟨S, h.base, Nat.le_trans l.len h.len, fun x hx => h.all x (sub.subset hx), fun x hx => h.ns x ((l.sub σ).subset hx), fun x hx => (by cases hx), h.nd.sublist (addrs_sub sub)⟩
theorem At.weak1 {Γ' : List (Option Tm)} (h : At K g Γ σ [(v, t)] H) (l : Le Γ' Γ) (ht : ∀ j, t ≠ .als j) : At K g Γ' σ [(v, t)] H := by
  obtain ⟨S, h⟩ := h
  have sub : (pack σ Γ' ++ [(v, t)]).Sublist (pack σ Γ ++ [(v, t)]) := (l.sub σ).append_right _
  exact ⟨S, h.base, Nat.le_trans l.len h.len, fun x hx => h.all x (sub.subset hx), fun x hx => h.ns x ((l.sub σ).subset hx), fun x hx k e => by
    have : x = (v, t) := by simpa using hx
    subst this
    exact absurd e (ht k), h.nd.sublist (addrs_sub sub)⟩
theorem pack_congr : ∀ {Γ : List (Option Tm)} {σ σ' : St}, (∀ (i : Nat) (t : Tm), Γ[i]? = some (some t) → σ'[i]? = σ[i]?) → Γ.length ≤ σ.length → Γ.length ≤ σ'.length → pack σ' Γ = pack σ Γ
  | [], _, _, _, _, _ => by simp [pack]
  | x :: Γ, [], _, _, l, _ => by simp at l
  | x :: Γ, _ :: _, [], _, _, l => by simp at l
  | x :: Γ, y :: σ, y' :: σ', h, l, l' => by
    have ih := pack_congr (Γ := Γ) (σ := σ) (σ' := σ') (fun i t e => by have := h (i + 1) t (by simpa using e); simpa using this) (by simpa using l) (by simpa using l')
    cases x with
    | none => simpa [pack] using ih
    | some t =>
      have e : y' = y := by have := h 0 t (by simp); simpa using this
      subst e
      cases y' <;> simp [pack, ih]
/-- slots that nothing is told of may be others -/
theorem AtS.slots {σ' : St} (h : AtS K g S Γ σ τ H) (e : ∀ (i : Nat) (t : Tm), Γ[i]? = some (some t) → σ'[i]? = σ[i]?) (l : Γ.length ≤ σ'.length) : AtS K g S Γ σ' τ H := by
  have ep := pack_congr e h.len l
  refine ⟨h.base, l, fun x hx => ?_, by rw [ep]; exact h.ns, h.al, by rw [ep]; exact h.nd⟩
  rw [ep] at hx
  have q := h.all x hx
  obtain ⟨v', t'⟩ := x
  cases t' with
  | als k =>
    rcases List.mem_append.mp hx with hm | hm
    · exact absurd rfl (h.ns _ hm k)
    · obtain ⟨oa, c, q2⟩ := h.al _ hm k rfl
      show σ'[k]? = some (some v')
      rw [e k _ q2]
      exact q
  | dat _ => exact q
  | own _ _ => exact q
  | bad => exact q
/-- a datum's slot is forgotten -/
theorem AtS.drop1 (h : AtS K g S Γ σ τ H) (e : Γ[i]? = some (some (.dat p))) : AtS K g S (Γ.set i none) σ τ H := by
  have sub : (pack σ (Γ.set i none) ++ τ).Sublist (pack σ Γ ++ τ) := (pack_drop Γ σ i).append_right τ
  refine ⟨h.base, by rw [List.length_set]; exact h.len, fun x hx => h.all x (sub.subset hx), fun x hx => h.ns x ((pack_drop Γ σ i).subset hx), fun x hx k ek => ?_, h.nd.sublist (addrs_sub sub)⟩
  obtain ⟨oa, c, q⟩ := h.al x hx k ek
  have hk : i ≠ k := fun z => by rw [z, q] at e; cases e
  exact ⟨oa, c, by rw [List.getElem?_set_ne hk]; exact q⟩
/-- the own list on the stack, below one value, is changed -/
theorem AtS.writeT {oa : Option Addr} {c c' : Cell} {o' : HO} {a : Addr} (h : AtS K g S Γ σ ((.ref a, .own oa c) :: τ) H) (k : CellOk K S c' o') :
    ∃ o, H a = some o ∧ CellOk K S c o ∧ AtS K g S Γ σ ((.ref a, .own oa c') :: τ) (upd H a o') := by
  obtain ⟨a', o, ea, h1, nS, nF, h4, h5⟩ := h.top
  cases ea
  refine ⟨o, h4, h5, ?_⟩
  have p : ∀ c : Cell, (pack σ Γ ++ (V.ref a, Tm.own oa c) :: τ).Perm ((V.ref a, Tm.own oa c) :: (pack σ Γ ++ τ)) := fun c => List.perm_middle
  have nd : (a :: addrs (pack σ Γ ++ τ)).Nodup := (addrs_perm (p c)).nodup_iff.mp h.nd
  obtain ⟨n1, n2⟩ := List.nodup_cons.mp nd
  refine ⟨⟨h.base.s0, fun b u z => ?_, fun b u z => ?_, h.base.fs⟩, h.len, fun x hx => ?_, h.ns, fun x hx j e => ?_, (addrs_perm (p c')).nodup_iff.mpr nd⟩
  · rw [upd_ne (ne_of_none z nS)]; exact h.base.sh b u z
  · rw [upd_ne (ne_of_none z nF)]; exact h.base.fh b u z
  · rcases List.mem_cons.mp ((p c').mem_iff.mp hx) with rfl | hx
    · exact ⟨a, o', rfl, h1, nS, nF, upd_same, k⟩
    · obtain ⟨v, t⟩ := x
      have q := h.all _ ((p c).mem_iff.mpr (List.mem_cons_of_mem _ hx))
      refine q.keep (Same.refl S) fun b ht hv => ⟨rfl, ?_⟩
      obtain ⟨oa', c'', rfl⟩ := ht
      subst hv
      exact upd_ne fun z => n1 (by rw [← z]; exact mem_addrs hx)
  · rcases List.mem_cons.mp hx with rfl | hx
    · cases e
    · exact h.al x (List.mem_cons_of_mem _ hx) j e
/-- from a later ghost back to an earlier one -/
theorem AtS.reS (h : AtS K g S Γ σ τ H) : AtS K ⟨S, g.F⟩ S Γ σ τ H :=
  ⟨⟨Same.refl S, h.base.sh, h.base.fh, fun b _ h0 => h0⟩, h.len, h.all, h.ns, h.al, h.nd⟩
theorem AtS.unS {S1 : Hp} (h : AtS K ⟨S1, g.F⟩ S Γ σ τ H) (e : Same g.S0 S1) (f : ∀ b, g.F b ≠ none → g.S0 b = none → S1 b = none) : AtS K g S Γ σ τ H :=
  ⟨⟨e.trans h.base.s0, h.base.sh, h.base.fh, fun b hb h0 => h.base.fs b hb (f b hb h0)⟩, h.len, h.all, h.ns, h.al, h.nd⟩
end
end Gv

set_option Elab.async false
set_option linter.all false
set_option maxRecDepth 100000
set_option maxHeartbeats 1000000
/-! Gv: expressions -/
namespace Gv
open PySem L2

/-! ### kinds of values -/
def eI (i : Int) : VP := fun _ v _ => v = .int i
def eB (b : Bool) : VP := fun _ v _ => v = .bl b
def eS (s : Str) : VP := fun _ v _ => v = .str s
def eN : VP := fun _ v _ => v = .non
def eU (_ : Unit) : VP := eN
def eO {α : Type} (e : α → VP) : Option α → VP
  | none => eN
  | some a => e a
def eV (x : V) : VP := fun _ v _ => v = x
def rT (ps : List VP) : VP := fun K v H => ∃ a vs, v = .ref a ∧ SqT K H a vs ∧ Hds K H ps vs
def rL (ps : List VP) : VP := fun K v H => ∃ a vs, v = .ref a ∧ SqL K H a vs ∧ Hds K H ps vs
def eT {α : Type} (e : α → VP) (xs : List α) : VP := rT (xs.map e)
def eL {α : Type} (e : α → VP) (xs : List α) : VP := rL (xs.map e)
def eP1 {α : Type} (e : α → VP) (x : α) : VP := rT [e x]
def eP2 {α β : Type} (e : α → VP) (f : β → VP) (x : α × β) : VP := rT [e x.1, f x.2]
def eP3 {α β γ : Type} (e : α → VP) (f : β → VP) (h : γ → VP) (x : α × β × γ) : VP := rT [e x.1, f x.2.1, h x.2.2]
def eP4 {α β γ δ : Type} (e : α → VP) (f : β → VP) (h : γ → VP) (k : δ → VP) (x : α × β × γ × δ) : VP := rT [e x.1, f x.2.1, h x.2.2.1, k x.2.2.2]
def eD (d : PyData) : VP := fun K v H => Dp K H v d
/-- a list of one's own, of typed items -/
def oL {α : Type} (e : α → VP) (xs : List α) : Tm := .own none (.lst (xs.map e))

theorem Hd.i {K : PySem.W.Frag} {i : Int} {v : V} {S : Hp} (h : Hd K (eI i) v S) : v = .int i := by obtain ⟨_, _, h⟩ := h; exact h
theorem Hd.b {K : PySem.W.Frag} {b : Bool} {v : V} {S : Hp} (h : Hd K (eB b) v S) : v = .bl b := by obtain ⟨_, _, h⟩ := h; exact h
theorem Hd.s {K : PySem.W.Frag} {s : Str} {v : V} {S : Hp} (h : Hd K (eS s) v S) : v = .str s := by obtain ⟨_, _, h⟩ := h; exact h
theorem Hd.n {K : PySem.W.Frag} {v : V} {S : Hp} (h : Hd K eN v S) : v = .non := by obtain ⟨_, _, h⟩ := h; exact h
theorem Hd.v {K : PySem.W.Frag} {x v : V} {S : Hp} (h : Hd K (eV x) v S) : v = x := by obtain ⟨_, _, h⟩ := h; exact h
theorem same_t {K : PySem.W.Frag} {H H' : Hp} {a : Addr} {xs : List V} (e : Same H H') (h : SqT K H a xs) : SqT K H' a xs := by
  rcases h with (h | ⟨o, h⟩) | h
  · exact .inl (.inl (e _ _ h))
  · exact .inl (.inr ⟨o, e _ _ h⟩)
  · exact .inr h
theorem Hd.t {K : PySem.W.Frag} {ps : List VP} {v : V} {S : Hp} (h : Hd K (rT ps) v S) : ∃ a vs, v = .ref a ∧ SqT K S a vs ∧ Hds K S ps vs := by
  obtain ⟨S0, e, a, vs, h1, h2, h3⟩ := h
  exact ⟨a, vs, h1, same_t e h2, h3.mono e⟩
theorem Hd.l {K : PySem.W.Frag} {ps : List VP} {v : V} {S : Hp} (h : Hd K (rL ps) v S) : ∃ a vs, v = .ref a ∧ SqL K S a vs ∧ Hds K S ps vs := by
  obtain ⟨S0, e, a, vs, h1, h2, h3⟩ := h
  exact ⟨a, vs, h1, e.seq h2, h3.mono e⟩
theorem Hds.get {K : PySem.W.Frag} {S : Hp} : ∀ {ps : List VP} {vs : List V} {i : Nat} {p : VP}, Hds K S ps vs → ps[i]? = some p → ∃ v, vs[i]? = some v ∧ Hd K p v S
  | _, _, _, _, .nil, h => by simp at h
  | _, _, 0, p, .cons r _, h => by
    simp only [List.getElem?_cons_zero, Option.some.injEq] at h
    subst h
    exact ⟨_, by simp, r⟩
  | _, _, i + 1, p, .cons _ t, h => by
    obtain ⟨v, h1, h2⟩ := Hds.get (i := i) (p := p) t (by simpa using h)
    exact ⟨v, by simpa using h1, h2⟩
theorem Hds.len {K : PySem.W.Frag} {S : Hp} {ps : List VP} {vs : List V} (h : Hds K S ps vs) : vs.length = ps.length := (Paired.length h).symm
theorem Hds.append {K : PySem.W.Frag} {S : Hp} : ∀ {ps qs : List VP} {vs ws : List V}, Hds K S ps vs → Hds K S qs ws → Hds K S (ps ++ qs) (vs ++ ws)
  | _, _, _, _, .nil, q => q
  | _, _, _, _, .cons r t, q => .cons r (Hds.append t q)
theorem Hds.take {K : PySem.W.Frag} {S : Hp} : ∀ {ps : List VP} {vs : List V} (n : Nat), Hds K S ps vs → Hds K S (ps.take n) (vs.take n)
  | _, _, 0, _ => by simpa using Paired.nil
  | _, _, _ + 1, .nil => .nil
  | _, _, n + 1, .cons r t => .cons r (Hds.take n t)
theorem Hds.drop {K : PySem.W.Frag} {S : Hp} : ∀ {ps : List VP} {vs : List V} (n : Nat), Hds K S ps vs → Hds K S (ps.drop n) (vs.drop n)
  | _, _, 0, h => by simpa using h
  | _, _, _ + 1, .nil => .nil
  | _, _, n + 1, .cons _ t => Hds.drop n t
theorem Hds.set {K : PySem.W.Frag} {S : Hp} {p : VP} {v : V} (h : Hd K p v S) : ∀ {ps : List VP} {vs : List V} (n : Nat), Hds K S ps vs → Hds K S (ps.set n p) (vs.set n v)
  | _, _, _, .nil => .nil
  | _, _, 0, .cons _ t => .cons h t
  | _, _, n + 1, .cons r t => .cons r (Hds.set h n t)
theorem Hds.rev {K : PySem.W.Frag} {S : Hp} {ps : List VP} {vs : List V} (h : Hds K S ps vs) : Hds K S ps.reverse vs.reverse := by
  induction h with
  | nil => exact .nil
  | cons r t ih => rw [List.reverse_cons, List.reverse_cons]; exact Hds.append ih (.cons r .nil)
theorem Hds.dropLast {K : PySem.W.Frag} {S : Hp} {ps : List VP} {vs : List V} (h : Hds K S ps vs) : Hds K S ps.dropLast vs.dropLast := by
  rw [List.dropLast_eq_take, List.dropLast_eq_take, h.len]
  exact h.take _

/-! ### judgements -/
section
variable (K : PySem.W.Frag) (Γ : List (Option Tm))
def EV (te : TE) (t : Tm) : Prop := ∀ g σ τ H (Q : VK), At K g Γ σ τ H → (∀ v H', At K g Γ σ ((v, t) :: τ) H' → Q v H') → te σ H Q
def EVB (tt : TT) (b : Bool) : Prop := ∀ g σ τ H (Q : Bool → Hp → Prop), At K g Γ σ τ H → (∀ H', At K g Γ σ τ H' → Q b H') → tt σ H Q
/-- arguments: the values stand on the stack, the last one on top -/
def EA (ta : TA) (ts : List Tm) : Prop := ∀ g σ τ H (Q : List V → Hp → Prop), At K g Γ σ τ H → (∀ vs H', vs.length = ts.length → At K g Γ σ ((vs.zip ts).reverse ++ τ) H' → Q vs H') → ta σ H Q
def O1 (r : V → Hp → VK → Prop) (t z : Tm) : Prop := ∀ g σ τ H x (Q : VK), At K g Γ σ ((x, t) :: τ) H → (∀ v H', At K g Γ σ ((v, z) :: τ) H' → Q v H') → r x H Q
def O2 (r : R2) (t u z : Tm) : Prop := ∀ g σ τ H x y (Q : VK), At K g Γ σ ((y, u) :: (x, t) :: τ) H → (∀ v H', At K g Γ σ ((v, z) :: τ) H' → Q v H') → r x y H Q
def O1M {γ : Type} (r : V → Hp → VK → Prop) (t : Tm) (m : R γ) (z : γ → Tm) : Prop := ∀ g σ τ H x (Q : VK) (E : Er → Prop), At K g Γ σ ((x, t) :: τ) H → OutR m (fun c => ∀ v H', At K g Γ σ ((v, z c) :: τ) H' → Q v H') E → r x H Q
def O2M {γ : Type} (r : R2) (t u : Tm) (m : R γ) (z : γ → Tm) : Prop := ∀ g σ τ H x y (Q : VK) (E : Er → Prop), At K g Γ σ ((y, u) :: (x, t) :: τ) H → OutR m (fun c => ∀ v H', At K g Γ σ ((v, z c) :: τ) H' → Q v H') E → r x y H Q
end

/-- a partial step -/
def gd (c : Bool) {α : Type} (a : α) : R α := if c then .nx a else .stuck
theorem OutR.gd {α : Type} {c : Bool} {a : α} {N : α → Prop} {E : Er → Prop} (h : OutR (Gv.gd c a) N E) : c = true ∧ N a := by
  unfold Gv.gd at h
  cases c with
  | true => exact ⟨rfl, h⟩
  | false => exact h.elim

section
variable {K : PySem.W.Frag} {Γ : List (Option Tm)} {g : Gh} {S H : Hp} {σ : St} {τ : List (V × Tm)} {v x y : V} {t u z w : Tm} {p q : VP} {ps qs : List VP} {i : Nat} {ta tb tc te : TE} {r r' : R2}

theorem At.scal (h : At K g Γ σ τ H) (q : ∀ S, p K v S) : At K g Γ σ ((v, .dat p) :: τ) H := by
  obtain ⟨S, h⟩ := h
  exact ⟨S, h.push (.of (q S))⟩
theorem ev_var (h : Γ[i]? = some (some (.dat p)) := by rfl) : EV K Γ (tVar i) (.dat p) := fun g σ τ H Q ⟨S, hA⟩ k => by
  obtain ⟨v, e, o, _⟩ := hA.slot h
  exact ⟨v, e, k v H ⟨S, hA.push o⟩⟩
theorem ev_own {oa : Option Addr} {c : Cell} (h : Γ[i]? = some (some (.own oa c)) := by rfl) : EV K Γ (tVar i) (.als i) := fun g σ τ H Q ⟨S, hA⟩ k => by
  obtain ⟨v, e, o, _⟩ := hA.slot h
  exact ⟨v, e, k v H ⟨S, hA.pushAls e h⟩⟩
theorem ev_int {j : Int} : EV K Γ (tC (.int j)) (.dat (eI j)) := fun g σ τ H Q hA k => k _ H (hA.scal fun _ => rfl)
theorem ev_bl {b : Bool} : EV K Γ (tC (.bl b)) (.dat (eB b)) := fun g σ τ H Q hA k => k _ H (hA.scal fun _ => rfl)
theorem ev_str {s : Str} : EV K Γ (tC (.str s)) (.dat (eS s)) := fun g σ τ H Q hA k => k _ H (hA.scal fun _ => rfl)
theorem ev_non : EV K Γ (tC .non) (.dat eN) := fun g σ τ H Q hA k => k _ H (hA.scal fun _ => rfl)
theorem ev_cv {x : V} : EV K Γ (tC x) (.dat (eV x)) := fun g σ τ H Q hA k => k _ H (hA.scal fun _ => rfl)
theorem ev_op (ha : EV K Γ ta t) (hb : EV K Γ tb u) (ho : O2 K Γ r t u z) : EV K Γ (tOp r ta tb) z := fun g σ τ H Q hA k =>
  ha g σ τ H _ hA fun _ H1 h1 => hb g σ _ H1 _ h1 fun _ H2 h2 => ho g σ τ H2 _ _ Q h2 k
theorem ev_un {r : V → Hp → VK → Prop} (ha : EV K Γ ta t) (ho : O1 K Γ r t z) : EV K Γ (tUn r ta) z := fun g σ τ H Q hA k =>
  ha g σ τ H _ hA fun _ H1 h1 => ho g σ τ H1 _ Q h1 k
theorem ev_cb1 {r : List V → Hp → VK → Prop} (ha : EV K Γ ta t) (ho : O1 K Γ (fun x => r [x]) t z) : EV K Γ (tCB r (tCons ta tNil)) z := fun g σ τ H Q hA k =>
  ha g σ τ H _ hA fun _ H1 h1 => ho g σ τ H1 _ Q h1 k
theorem ev_cb2 {r : List V → Hp → VK → Prop} (ha : EV K Γ ta t) (hb : EV K Γ tb u) (ho : O2 K Γ (fun x y => r [x, y]) t u z) : EV K Γ (tCB r (tCons ta (tCons tb tNil))) z := fun g σ τ H Q hA k =>
  ha g σ τ H _ hA fun _ H1 h1 => hb g σ _ H1 _ h1 fun _ H2 h2 => ho g σ τ H2 _ _ Q h2 k
theorem ea_nil : EA K Γ tNil [] := fun g σ τ H Q hA k => k [] H rfl hA
theorem ea_cons {tr : TA} {ts : List Tm} (h : EV K Γ te t) (hr : EA K Γ tr ts) : EA K Γ (tCons te tr) (t :: ts) := fun g σ τ H Q hA k =>
  h g σ τ H _ hA fun v H1 h1 => hr g σ _ H1 _ h1 fun vs H2 hl h2 => k (v :: vs) H2 (by simp [hl]) (by
    rw [List.zip_cons_cons, List.reverse_cons, List.append_assoc]
    exact h2)
/-- the datas on the stack -/
theorem AtS.datas : ∀ {ps : List VP} {vs : List V} {τ : List (V × Tm)}, AtS K g S Γ σ ((vs.zip (ps.map Tm.dat)).reverse ++ τ) H → vs.length = ps.length → Hds K S ps vs ∧ AtS K g S Γ σ τ H
  | [], [], τ, h, _ => ⟨.nil, by simpa using h⟩
  | [], _ :: _, _, _, e => by simp at e
  | _ :: _, [], _, _, e => by simp at e
  | p :: ps, v :: vs, τ, h, e => by
    rw [List.map_cons, List.zip_cons_cons, List.reverse_cons, List.append_assoc] at h
    obtain ⟨h1, h2⟩ := AtS.datas (ps := ps) (vs := vs) (τ := [(v, Tm.dat p)] ++ τ) h (by simpa using e)
    exact ⟨.cons h2.top h1, h2.pop⟩
theorem ev_tup {ta : TA} (ps : List VP) (h : EA K Γ ta (ps.map Tm.dat)) (hz : ps.length ≤ 100 := by exact Nat.le_of_ble_eq_true rfl) : EV K Γ (tTup ta) (.dat (rT ps)) := fun g σ τ H Q hA k =>
  h g σ τ H _ hA fun vs H1 hl ⟨S, h1⟩ => by
    have hl' : vs.length = ps.length := by simpa using hl
    obtain ⟨d, h2⟩ := h1.datas hl'
    refine ⟨Nat.le_trans (Nat.le_of_eq hl') (Nat.le_trans hz (by decide)), fun a ha => k _ _ ⟨_, (h2.lay ha).push (.of ⟨a, vs, rfl, SqT.of upd_same, d.mono fun b o e => ?_⟩)⟩⟩
    have : S a = none := by
      cases e : S a with
      | none => rfl
      | some o => rw [h2.base.sh a o e] at ha; cases ha
    rw [upd_ne (ne_of_none e this)]; exact e
theorem ev_lst {ta : TA} (ps : List VP) (h : EA K Γ ta (ps.map Tm.dat)) (hz : ps.length ≤ 100 := by exact Nat.le_of_ble_eq_true rfl) : EV K Γ (tLst ta) (.own none (.lst ps)) := fun g σ τ H Q hA k =>
  h g σ τ H _ hA fun vs H1 hl ⟨S, h1⟩ => by
    have hl' : vs.length = ps.length := by simpa using hl
    obtain ⟨d, h2⟩ := h1.datas hl'
    exact ⟨Nat.le_trans (Nat.le_of_eq hl') (Nat.le_trans hz (by decide)), fun a ha => k _ _ ⟨_, h2.fresh ha ⟨vs, rfl, d⟩⟩⟩
theorem At.frz {oa : Option Addr} (h : At K g Γ σ ((v, .own oa (.lst ps)) :: τ) H) : At K g Γ σ ((v, .dat (rL ps)) :: τ) H := by
  obtain ⟨S, h⟩ := h
  obtain ⟨a, o, rfl, h4, nS, ⟨vs, rfl, d⟩, h2⟩ := h.freeze
  refine ⟨_, h2.push (.of ⟨a, vs, rfl, SqL.of upd_same, d.mono fun b o e => ?_⟩)⟩
  rw [upd_ne (ne_of_none e nS)]; exact e
theorem ev_frz {oa : Option Addr} (h : EV K Γ te (.own oa (.lst ps))) : EV K Γ te (.dat (rL ps)) := fun g σ τ H Q hA k => h g σ τ H Q hA fun v H' h' => k v H' h'.frz

/-! ### ints, bools, texts -/
theorem At.scal1 {r : V → Hp → VK → Prop} (f : ∀ S v, Hd K p v S → ∀ H (Q : VK), Q x H → r v H Q) (hz : ∀ S, q K x S) : O1 K Γ r (.dat p) (.dat q) := fun g σ τ H v Q ⟨S, h⟩ k =>
  f S v h.top H Q (k _ H ⟨S, h.pop.push (.of (hz S))⟩)
theorem At.scal2 {p2 : VP} (f : ∀ S v w, Hd K p v S → Hd K p2 w S → ∀ H (Q : VK), Q x H → r v w H Q) (hz : ∀ S, q K x S) : O2 K Γ r (.dat p) (.dat p2) (.dat q) := fun g σ τ H v w Q ⟨S, h⟩ k =>
  f S v w h.pop.top h.top H Q (k _ H ⟨S, h.pop.pop.push (.of (hz S))⟩)
theorem o2_i0 {f : Int → Int → Int} {a b : Int} : O2 K Γ (rI0 fun i j => .int (f i j)) (.dat (eI a)) (.dat (eI b)) (.dat (eI (f a b))) :=
  At.scal2 (fun S v w h1 h2 H Q k => ⟨a, b, h1.i, h2.i, k⟩) fun _ => rfl
theorem o2_i {C : Int → Int → Prop} {f : Int → Int → Int} {a b : Int} (hc : C a b) : O2 K Γ (rI C fun i j => .int (f i j)) (.dat (eI a)) (.dat (eI b)) (.dat (eI (f a b))) :=
  At.scal2 (fun S v w h1 h2 H Q k => ⟨a, b, h1.i, h2.i, hc, k⟩) fun _ => rfl
theorem o2_c0 {f : Int → Int → Bool} {a b : Int} : O2 K Γ (rI0 fun i j => .bl (f i j)) (.dat (eI a)) (.dat (eI b)) (.dat (eB (f a b))) :=
  At.scal2 (fun S v w h1 h2 H Q k => ⟨a, b, h1.i, h2.i, k⟩) fun _ => rfl
theorem dec_inj {α : Type} [DecidableEq α] {f : α → V} (hf : ∀ a b, f a = f b → a = b) (a b : α) : decide (f a = f b) = decide (a = b) := by
  by_cases h : a = b
  · subst h; simp
  · rw [decide_eq_false h, decide_eq_false fun e => h (hf _ _ e)]
theorem o2_eqI {a b : Int} : O2 K Γ rEq (.dat (eI a)) (.dat (eI b)) (.dat (eB (decide (a = b)))) :=
  At.scal2 (fun S v w h1 h2 H Q k => by
    rw [h1.i, h2.i]
    exact ⟨rfl, by rw [dec_inj (f := V.int) (fun _ _ e => V.int.inj e)]; exact k⟩) fun _ => rfl
theorem o2_neI {a b : Int} : O2 K Γ rNe (.dat (eI a)) (.dat (eI b)) (.dat (eB (!decide (a = b)))) :=
  At.scal2 (fun S v w h1 h2 H Q k => by
    rw [h1.i, h2.i]
    exact ⟨rfl, by rw [dec_inj (f := V.int) (fun _ _ e => V.int.inj e)]; exact k⟩) fun _ => rfl
theorem o2_eqS {a b : Str} : O2 K Γ rEq (.dat (eS a)) (.dat (eS b)) (.dat (eB (decide (a = b)))) :=
  At.scal2 (fun S v w h1 h2 H Q k => by
    rw [h1.s, h2.s]
    exact ⟨rfl, by rw [dec_inj (f := V.str) (fun _ _ e => V.str.inj e)]; exact k⟩) fun _ => rfl
theorem o2_neS {a b : Str} : O2 K Γ rNe (.dat (eS a)) (.dat (eS b)) (.dat (eB (!decide (a = b)))) :=
  At.scal2 (fun S v w h1 h2 H Q k => by
    rw [h1.s, h2.s]
    exact ⟨rfl, by rw [dec_inj (f := V.str) (fun _ _ e => V.str.inj e)]; exact k⟩) fun _ => rfl
theorem o2_eqB {a b : Bool} : O2 K Γ rEq (.dat (eB a)) (.dat (eB b)) (.dat (eB (decide (a = b)))) :=
  At.scal2 (fun S v w h1 h2 H Q k => by
    rw [h1.b, h2.b]
    exact ⟨rfl, by rw [dec_inj (f := V.bl) (fun _ _ e => V.bl.inj e)]; exact k⟩) fun _ => rfl
theorem o2_neB {a b : Bool} : O2 K Γ rNe (.dat (eB a)) (.dat (eB b)) (.dat (eB (!decide (a = b)))) :=
  At.scal2 (fun S v w h1 h2 H Q k => by
    rw [h1.b, h2.b]
    exact ⟨rfl, by rw [dec_inj (f := V.bl) (fun _ _ e => V.bl.inj e)]; exact k⟩) fun _ => rfl
theorem o1_neg {a : Int} : O1 K Γ (rU fun i => .int (-i)) (.dat (eI a)) (.dat (eI (-a))) := At.scal1 (fun S v h H Q k => ⟨a, h.i, k⟩) fun _ => rfl
/-- partial: a % b, a // b, a * b -/
def modR (a b : Int) : R Int := gd (decide (0 < b)) (a % b)
def divR (a b : Int) : R Int := gd (decide (0 < b) && decide (b < 1073741824)) (a / b)
@[irreducible] def mulR (a b : Int) : R Int := gd ((decide (-(2 ^ 64) < a) && decide (a < 2 ^ 64)) || (decide (-(2 ^ 64) < b) && decide (b < 2 ^ 64))) (a * b)
theorem At.part2 {γ : Type} {c : Bool} {a : γ} {zz : γ → Tm} (h : c = true → O2 K Γ r t u (zz a)) : O2M K Γ r t u (gd c a) zz := fun g σ τ H x y Q E hA hm => by
  obtain ⟨hc, k⟩ := hm.gd
  exact h hc g σ τ H x y Q hA k
theorem At.part1 {γ : Type} {r : V → Hp → VK → Prop} {c : Bool} {a : γ} {zz : γ → Tm} (h : c = true → O1 K Γ r t (zz a)) : O1M K Γ r t (gd c a) zz := fun g σ τ H x Q E hA hm => by
  obtain ⟨hc, k⟩ := hm.gd
  exact h hc g σ τ H x Q hA k
theorem o2_mod {a b : Int} : O2M K Γ (rI (fun _ j => 0 < j) fun i j => .int (i % j)) (.dat (eI a)) (.dat (eI b)) (modR a b) (fun c => .dat (eI c)) := At.part2 fun h => o2_i (of_decide_eq_true h)
theorem o2_div {a b : Int} : O2M K Γ (rI CDiv fun i j => .int (i / j)) (.dat (eI a)) (.dat (eI b)) (divR a b) (fun c => .dat (eI c)) := At.part2 fun h => o2_i (by
  simp only [Bool.and_eq_true, decide_eq_true_eq] at h
  exact h)
theorem o2_mul {a b : Int} : O2M K Γ (rI CMul fun i j => .int (i * j)) (.dat (eI a)) (.dat (eI b)) (mulR a b) (fun c => .dat (eI c)) := by
  unfold mulR
  exact At.part2 fun h => o2_i (by
    simp only [Bool.or_eq_true, Bool.and_eq_true, decide_eq_true_eq] at h
    exact h)
/-- by a written number -/
theorem o2_modK {a b : Int} (h : decide (0 < b) = true := by rfl) : O2 K Γ (rI (fun _ j => 0 < j) fun i j => .int (i % j)) (.dat (eI a)) (.dat (eI b)) (.dat (eI (a % b))) := o2_i (of_decide_eq_true h)
theorem o2_divK {a b : Int} (h : (decide (0 < b) && decide (b < 1073741824)) = true := by rfl) : O2 K Γ (rI CDiv fun i j => .int (i / j)) (.dat (eI a)) (.dat (eI b)) (.dat (eI (a / b))) := o2_i (by
  simp only [Bool.and_eq_true, decide_eq_true_eq] at h
  exact h)
theorem o2_mulK {a b : Int} (h : (decide (-(2 ^ 64) < b) && decide (b < 2 ^ 64)) = true := by decide) : O2 K Γ (rI CMul fun i j => .int (i * j)) (.dat (eI a)) (.dat (eI b)) (.dat (eI (a * b))) := o2_i (by
  simp only [Bool.and_eq_true, decide_eq_true_eq] at h
  exact .inr h)
theorem o2_mulJ {a b : Int} (h : (decide (-(2 ^ 64) < a) && decide (a < 2 ^ 64)) = true := by decide) : O2 K Γ (rI CMul fun i j => .int (i * j)) (.dat (eI a)) (.dat (eI b)) (.dat (eI (a * b))) := o2_i (by
  simp only [Bool.and_eq_true, decide_eq_true_eq] at h
  exact .inl h)
theorem o2_powK {a b : Int} (h : CPow a b := by refine ⟨?_, ?_, ?_⟩ <;> decide) : O2 K Γ (rI CPow fun i j => .int (i ^ j.toNat)) (.dat (eI a)) (.dat (eI b)) (.dat (eI (a ^ b.toNat))) := o2_i h
/-- is None -/
def NN {α : Type} (e : α → VP) : Prop := ∀ K a v S, Hd K (e a) v S → v ≠ .non
theorem nn_i : NN eI := fun K a v S h => by rw [h.i]; intro z; cases z
theorem nn_b : NN eB := fun K a v S h => by rw [h.b]; intro z; cases z
theorem nn_s : NN eS := fun K a v S h => by rw [h.s]; intro z; cases z
theorem nn_t {α : Type} {f : α → List VP} : NN (fun a => rT (f a)) := fun K a v S h => by
  obtain ⟨a, vs, rfl, _⟩ := h.t
  intro z; cases z
theorem nn_l {α : Type} {f : α → List VP} : NN (fun a => rL (f a)) := fun K a v S h => by
  obtain ⟨a, vs, rfl, _⟩ := h.l
  intro z; cases z
theorem eO_dec {α : Type} {e : α → VP} (n : NN e) {o : Option α} {v : V} {S : Hp} (h : Hd K (eO e o) v S) : decide (v = .non) = o.isNone := by
  cases o with
  | none => have e1 : v = .non := Hd.n h; subst e1; rfl
  | some a => exact decide_eq_false (n K a v S h)
def rIsN : R2 := fun x y H Q => y = .non ∧ Q (.bl (decide (x = .non))) H
def rNotN : R2 := fun x y H Q => y = .non ∧ Q (.bl (!decide (x = .non))) H
theorem p_isN {X : Cx} : OpR X (compareOp .Is) rIsN := op_isN
theorem p_notN {X : Cx} : OpR X (compareOp .IsNot) rNotN := op_notN
theorem o2_isN {α : Type} {e : α → VP} {o : Option α} (n : NN e) : O2 K Γ rIsN (.dat (eO e o)) (.dat eN) (.dat (eB o.isNone)) :=
  At.scal2 (fun S v w h1 h2 H Q k => ⟨h2.n, by rw [eO_dec n h1]; exact k⟩) fun _ => rfl
theorem o2_notN {α : Type} {e : α → VP} {o : Option α} (n : NN e) : O2 K Γ rNotN (.dat (eO e o)) (.dat eN) (.dat (eB (!o.isNone))) :=
  At.scal2 (fun S v w h1 h2 H Q k => ⟨h2.n, by rw [eO_dec n h1]; exact k⟩) fun _ => rfl

/-! ### tests -/
variable {tA tB' : TT} {a b c : Bool}
theorem evb_test (h : EV K Γ te (.dat (eB b))) : EVB K Γ (tTest te) b := fun g σ τ H Q hA k => h g σ τ H _ hA fun v H' ⟨S, h'⟩ => ⟨b, h'.top.b, k H' ⟨S, h'.pop⟩⟩
theorem evb_B (h : EV K Γ te (.dat (eB b))) : EVB K Γ (tB te) b := fun g σ τ H Q hA k => h g σ τ H _ hA fun v H' ⟨S, h'⟩ => ⟨b, h'.top.b, k H' ⟨S, h'.pop⟩⟩
theorem evb_and (h1 : EVB K Γ tA a) (h2 : EVB K Γ tB' b) : EVB K Γ (tAnd tA tB') (a && b) := fun g σ τ H Q hA k => h1 g σ τ H _ hA fun H1 hA1 => by
  cases a with
  | true => exact h2 g σ τ H1 Q hA1 k
  | false => exact k H1 hA1
theorem evb_or (h1 : EVB K Γ tA a) (h2 : EVB K Γ tB' b) : EVB K Γ (tOr tA tB') (a || b) := fun g σ τ H Q hA k => h1 g σ τ H _ hA fun H1 hA1 => by
  cases a with
  | false => exact h2 g σ τ H1 Q hA1 k
  | true => exact k H1 hA1
theorem evb_not (h1 : EVB K Γ tA a) : EVB K Γ (tNot tA) (!a) := fun g σ τ H Q hA k => h1 g σ τ H _ hA fun H1 hA1 => k H1 hA1
theorem ev_andV (h1 : EV K Γ ta (.dat (eB a))) (h2 : EV K Γ tb (.dat (eB b))) : EV K Γ (tAndV ta tb) (.dat (eB (a && b))) := fun g σ τ H Q hA k => h1 g σ τ H _ hA fun v H1 ⟨S, h⟩ => ⟨a, h.top.b, by
  have hA1 : At K g Γ σ τ H1 := ⟨S, h.pop⟩
  cases a with
  | true => exact h2 g σ τ H1 Q hA1 k
  | false => exact k _ H1 (hA1.scal fun _ => rfl)⟩
theorem ev_orV (h1 : EV K Γ ta (.dat (eB a))) (h2 : EV K Γ tb (.dat (eB b))) : EV K Γ (tOrV ta tb) (.dat (eB (a || b))) := fun g σ τ H Q hA k => h1 g σ τ H _ hA fun v H1 ⟨S, h⟩ => ⟨a, h.top.b, by
  have hA1 : At K g Γ σ τ H1 := ⟨S, h.pop⟩
  cases a with
  | false => exact h2 g σ τ H1 Q hA1 k
  | true => exact k _ H1 (hA1.scal fun _ => rfl)⟩
theorem ev_notV (h1 : EV K Γ ta (.dat (eB a))) : EV K Γ (tNotV ta) (.dat (eB (!a))) := fun g σ τ H Q hA k => h1 g σ τ H _ hA fun v H1 ⟨S, h⟩ => ⟨a, h.top.b, k _ H1 (At.scal ⟨S, h.pop⟩ fun _ => rfl)⟩
theorem ev_if {α : Type} {e : α → Tm} {x y : α} (hc : EVB K Γ tA c) (h1 : EV K Γ ta (e x)) (h2 : EV K Γ tb (e y)) : EV K Γ (tIf tA ta tb) (e (if c then x else y)) := fun g σ τ H Q hA k => hc g σ τ H _ hA fun H1 hA1 => by
  cases c with
  | true => exact h1 g σ τ H1 Q hA1 k
  | false => exact h2 g σ τ H1 Q hA1 k
/-- a < b < c on ints (b asked once) -/
theorem ev_chain {i j k : Int} {f f' : Int → Int → Bool} (h1 : EV K Γ ta (.dat (eI i))) (h2 : EV K Γ tb (.dat (eI j))) (h3 : EV K Γ tc (.dat (eI k))) :
    EV K Γ (tChain (rI0 fun i j => .bl (f i j)) (rI0 fun i j => .bl (f' i j)) ta tb tc) (.dat (eB (f i j && f' j k))) := fun g σ τ H Q hA kk =>
  h1 g σ τ H _ hA fun x H1 hA1 => h2 g σ _ H1 _ hA1 fun y H2 ⟨S, hA2⟩ => by
    refine ⟨i, j, hA2.pop.top.i, hA2.top.i, f i j, rfl, ?_⟩
    cases e : f i j with
    | true =>
      show tc σ H2 _
      refine h3 g σ _ H2 _ ⟨S, hA2⟩ fun z H3 ⟨S3, hA3⟩ => ⟨j, k, hA3.pop.top.i, hA3.top.i, ?_⟩
      refine kk _ H3 ⟨S3, hA3.pop.pop.pop.push (.of ?_)⟩
      show V.bl _ = V.bl _
      rw [e, Bool.true_and]
    | false =>
      show Q (.bl false) H2
      exact kk _ H2 ⟨S, hA2.pop.pop.push (.of (by show V.bl _ = V.bl _; rw [e, Bool.false_and]))⟩
end
end Gv

set_option Elab.async false
set_option linter.all false
set_option maxRecDepth 100000
set_option maxHeartbeats 1000000
/-! Gv: lists, tuples, calls, statements -/
namespace Gv
open PySem L2

/-! ### what stands on the stack is a list, a tuple -/
inductive IsL (G : List (Option Tm)) : Tm → List VP → Prop
  | dat {ps : List VP} : IsL G (.dat (rL ps)) ps
  | als {i : Nat} {oa : Option Addr} {ps : List VP} (h : G[i]? = some (some (.own oa (.lst ps)))) : IsL G (.als i) ps
  | own {oa : Option Addr} {ps : List VP} : IsL G (.own oa (.lst ps)) ps
inductive IsQ (G : List (Option Tm)) : Tm → List VP → Prop
  | l {t : Tm} {ps : List VP} (h : IsL G t ps) : IsQ G t ps
  | t {ps : List VP} : IsQ G (.dat (rT ps)) ps

section
variable {K : PySem.W.Frag} {Γ : List (Option Tm)} {g : Gh} {S H : Hp} {σ : St} {τ : List (V × Tm)} {v x y : V} {t u z w : Tm} {p q : VP} {ps qs : List VP} {i : Nat} {ta tb tc te : TE} {r r' : R2} {α : Type} {e : α → VP}

theorem AtS.isL (h : AtS K g S Γ σ τ H) (hm : (v, t) ∈ τ) (hl : IsL Γ t ps) : ∃ a vs, v = .ref a ∧ SqL K H a vs ∧ Hds K S ps vs := by
  have q := h.all _ (List.mem_append_right _ hm)
  cases hl with
  | dat =>
    obtain ⟨a, vs, h1, h2, h3⟩ := Hd.l q
    exact ⟨a, vs, h1, h.base.sh.seq h2, h3⟩
  | als hg =>
    obtain ⟨w, e, o, _⟩ := h.slot hg
    have q' : σ[_]? = some (some v) := q
    rw [e] at q'
    cases q'
    obtain ⟨a, o, h1, _, _, _, h4, vs, rfl, d⟩ := o
    exact ⟨a, vs, h1, SqL.of h4, d⟩
  | own =>
    obtain ⟨a, o, h1, _, _, _, h4, vs, rfl, d⟩ := q
    exact ⟨a, vs, h1, SqL.of h4, d⟩
theorem AtS.isT (h : AtS K g S Γ σ τ H) (hm : (v, .dat (rT ps)) ∈ τ) : ∃ a vs, v = .ref a ∧ SqT K H a vs ∧ Hds K S ps vs := by
  obtain ⟨a, vs, h1, h2, h3⟩ := Hd.t (h.all _ (List.mem_append_right _ hm))
  exact ⟨a, vs, h1, same_t h.base.sh h2, h3⟩
theorem AtS.isQ (h : AtS K g S Γ σ τ H) (hm : (v, t) ∈ τ) (hl : IsQ Γ t ps) : ∃ a vs, v = .ref a ∧ (SqL K H a vs ∨ SqT K H a vs) ∧ Hds K S ps vs := by
  cases hl with
  | l hl =>
    obtain ⟨a, vs, h1, h2, h3⟩ := h.isL hm hl
    exact ⟨a, vs, h1, .inl h2, h3⟩
  | t =>
    obtain ⟨a, vs, h1, h2, h3⟩ := h.isT hm
    exact ⟨a, vs, h1, .inr h2, h3⟩

/-! ### len, list(..), tuple(..) -/
def rLen (K : PySem.W.Frag) : List V → Hp → VK → Prop := fun xs H Q => ∃ p ys, xs = [V.ref p] ∧ (SqL K H p ys ∨ SqT K H p ys) ∧ Q (.int ys.length) H
def rList (K : PySem.W.Frag) : List V → Hp → VK → Prop := fun xs H Q => ∃ p ys, xs = [V.ref p] ∧ (SqL K H p ys ∨ SqT K H p ys) ∧ ∀ l, H l = none → Q (.ref l) (upd H l (.lst ys))
def rTuple (K : PySem.W.Frag) : List V → Hp → VK → Prop := fun xs H Q => ∃ p ys, xs = [V.ref p] ∧ ((SqL K H p ys ∧ ∀ l, H l = none → Q (.ref l) (upd H l (.tup ys))) ∨ (SqT K H p ys ∧ Q (.ref p) H))
def rInt1 : List V → Hp → VK → Prop := fun xs H Q => (∃ i, xs = [V.int i] ∧ Q (.int i) H) ∨ ∃ k, xs = [V.bl k] ∧ Q (.int (if k then 1 else 0)) H
def rStr1 : List V → Hp → VK → Prop := fun xs H Q => ∃ i : Int, xs = [V.int i] ∧ i.natAbs.log2 < 1920 ∧ Q (.str (toString i)) H
def rMax2 : List V → Hp → VK → Prop := fun xs H Q => ∃ i j, xs = [V.int i, V.int j] ∧ Q (.int (if j > i then j else i)) H
def rMin2 : List V → Hp → VK → Prop := fun xs H Q => ∃ i j, xs = [V.int i, V.int j] ∧ Q (.int (if j < i then j else i)) H
def rAbs : List V → Hp → VK → Prop := fun xs H Q => ∃ i, xs = [V.int i] ∧ Q (.int (if i < 0 then -i else i)) H
section
variable {X : Cx}
theorem c_len : CallR X (.builtin "len") (rLen X.K) := call_len_seq
theorem c_list : CallR X (.type "list") (rList X.K) := call_list_of
theorem c_tuple : CallR X (.type "tuple") (rTuple X.K) := call_tuple_of
theorem c_int : CallR X (.type "int") rInt1 := call_int1
theorem c_str : CallR X (.type "str") rStr1 := call_str_int
theorem c_max2 (hc : X.calm = true := by rfl) : CallR X (.builtin "max") rMax2 := call_max2 hc
theorem c_min2 (hc : X.calm = true := by rfl) : CallR X (.builtin "min") rMin2 := call_min2 hc
theorem c_abs : CallR X (.builtin "abs") rAbs := call_abs
end
theorem o1_int {i : Int} : O1 K Γ (fun x => rInt1 [x]) (.dat (eI i)) (.dat (eI i)) := At.scal1 (fun S v h H Q k => .inl ⟨i, by rw [h.i], k⟩) fun _ => rfl
theorem o1_intB {b : Bool} : O1 K Γ (fun x => rInt1 [x]) (.dat (eB b)) (.dat (eI (if b then 1 else 0))) := At.scal1 (fun S v h H Q k => .inr ⟨b, by rw [h.b], k⟩) fun _ => rfl
theorem o1_abs {i : Int} : O1 K Γ (fun x => rAbs [x]) (.dat (eI i)) (.dat (eI (if i < 0 then -i else i))) := At.scal1 (fun S v h H Q k => ⟨i, by rw [h.i], k⟩) fun _ => rfl
def strI (i : Int) : Str := toString i
def strR (i : Int) : R Str := gd (decide (i.natAbs.log2 < 1920)) (strI i)
theorem o1_str {i : Int} : O1M K Γ (fun x => rStr1 [x]) (.dat (eI i)) (strR i) (fun s => .dat (eS s)) := At.part1 fun hc => At.scal1 (fun S v h H Q k => ⟨i, by rw [h.i], of_decide_eq_true hc, k⟩) fun _ => rfl
def maxI (i j : Int) : Int := if j > i then j else i
def minI (i j : Int) : Int := if j < i then j else i
theorem o2_max {i j : Int} : O2 K Γ (fun x y => rMax2 [x, y]) (.dat (eI i)) (.dat (eI j)) (.dat (eI (maxI i j))) := At.scal2 (fun S v w h1 h2 H Q k => ⟨i, j, by rw [h1.i, h2.i], k⟩) fun _ => rfl
theorem o2_min {i j : Int} : O2 K Γ (fun x y => rMin2 [x, y]) (.dat (eI i)) (.dat (eI j)) (.dat (eI (minI i j))) := At.scal2 (fun S v w h1 h2 H Q k => ⟨i, j, by rw [h1.i, h2.i], k⟩) fun _ => rfl
theorem o1_len (hl : IsQ Γ t ps) : O1 K Γ (fun x => rLen K [x]) t (.dat (eI (ps.length : Int))) := fun g σ τ H x Q ⟨S, h⟩ k => by
  obtain ⟨a, vs, rfl, h2, h3⟩ := h.isQ List.mem_cons_self hl
  refine ⟨a, vs, rfl, h2, k _ H ⟨S, h.pop.push (.of ?_)⟩⟩
  show V.int _ = V.int _
  rw [h3.len]
theorem o1_lenT (xs : List α) (e : α → VP) (hl : IsQ Γ t (xs.map e)) : O1 K Γ (fun x => rLen K [x]) t (.dat (eI (xs.length : Int))) := by
  have := o1_len (K := K) hl
  rw [List.length_map] at this
  exact this
theorem o1_list (hl : IsQ Γ t ps) : O1 K Γ (fun x => rList K [x]) t (.own none (.lst ps)) := fun g σ τ H x Q ⟨S, h⟩ k => by
  obtain ⟨a, vs, rfl, h2, h3⟩ := h.isQ List.mem_cons_self hl
  exact ⟨a, vs, rfl, h2, fun l hn => k _ _ ⟨S, h.pop.fresh hn ⟨vs, rfl, h3⟩⟩⟩
theorem nS_of (h : AtS K g S Γ σ τ H) {a : Addr} (n : H a = none) : S a = none := by
  cases e : S a with
  | none => rfl
  | some u => rw [h.base.sh a u e] at n; cases n
/-- a new tuple of what is held -/
theorem AtS.newT {a : Addr} {vs : List V} (h : AtS K g S Γ σ τ H) (n : H a = none) (d : Hds K S ps vs) : At K g Γ σ ((.ref a, .dat (rT ps)) :: τ) (upd H a (.tup vs)) :=
  ⟨_, (h.lay n).push (.of ⟨a, vs, rfl, SqT.of upd_same, d.mono fun b o e => by rw [upd_ne (ne_of_none e (nS_of h n))]; exact e⟩)⟩
theorem o1_tuple (hl : IsQ Γ t ps) : O1 K Γ (fun x => rTuple K [x]) t (.dat (rT ps)) := fun g σ τ H x Q ⟨S, h⟩ k => by
  cases hl with
  | l hl =>
    obtain ⟨a, vs, rfl, h2, h3⟩ := h.isL List.mem_cons_self hl
    exact ⟨a, vs, rfl, .inl ⟨h2, fun l hn => k _ _ (h.pop.newT hn h3)⟩⟩
  | t =>
    have q := h.top
    obtain ⟨a, vs, rfl, h2, h3⟩ := h.isT List.mem_cons_self
    exact ⟨a, vs, rfl, .inr ⟨h2, k _ H ⟨S, h.pop.push q⟩⟩⟩

/-! ### an item -/
def idx {α : Type} (xs : List α) (i : Int) : R α := match atI xs i with
  | some a => .nx a
  | none => .stuck
theorem atI_hds {vs : List V} {j : Int} {p : VP} (d : Hds K S ps vs) (h : atI ps j = some p) : ∃ v, atI vs j = some v ∧ Hd K p v S := by
  unfold atI at h ⊢
  rw [d.len]
  cases e : ixN ps.length j with
  | none => rw [e] at h; cases h
  | some m =>
    rw [e] at h
    have h' : ps[m]? = some p := h
    obtain ⟨v, h1, h2⟩ := d.get h'
    exact ⟨v, h1, h2⟩
theorem atI_map {xs : List α} {j : Int} {a : α} (h : atI xs j = some a) : atI (xs.map e) j = some (e a) := by
  unfold atI at h ⊢
  rw [List.length_map]
  cases e1 : ixN xs.length j with
  | none => rw [e1] at h; cases h
  | some m =>
    rw [e1] at h
    have h' : xs[m]? = some a := h
    show (xs.map e)[m]? = some (e a)
    rw [List.getElem?_map, h']
    rfl
theorem o2_idxL {xs : List α} {j : Int} (hl : IsL Γ t (xs.map e)) : O2M K Γ (rIxL K) t (.dat (eI j)) (idx xs j) (fun a => .dat (e a)) := fun g σ τ H x y Q E ⟨S, h⟩ hm => by
  unfold idx at hm
  cases e1 : atI xs j with
  | none => rw [e1] at hm; exact hm.elim
  | some a =>
    rw [e1] at hm
    obtain ⟨b, vs, rfl, h2, h3⟩ := h.isL (List.mem_cons_of_mem _ List.mem_cons_self) hl
    obtain ⟨w, h4, h5⟩ := atI_hds h3 (atI_map e1)
    exact ⟨b, vs, j, w, rfl, h.top.i, h2, h4, hm _ H ⟨S, h.pop.pop.push h5⟩⟩
theorem o2_idxT {xs : List α} {j : Int} : O2M K Γ (rIxT K) (.dat (eT e xs)) (.dat (eI j)) (idx xs j) (fun a => .dat (e a)) := fun g σ τ H x y Q E ⟨S, h⟩ hm => by
  unfold idx at hm
  cases e1 : atI xs j with
  | none => rw [e1] at hm; exact hm.elim
  | some a =>
    rw [e1] at hm
    obtain ⟨b, vs, rfl, h2, h3⟩ := h.isT (List.mem_cons_of_mem _ List.mem_cons_self)
    obtain ⟨w, h4, h5⟩ := atI_hds h3 (atI_map e1)
    exact ⟨b, vs, j, w, rfl, h.top.i, h2, h4, hm _ H ⟨S, h.pop.pop.push h5⟩⟩
/-- a written place of a tuple whose places are told -/
theorem o2_ixK {j : Int} (h : atI ps j = some p := by rfl) : O2 K Γ (rIxT K) (.dat (rT ps)) (.dat (eI j)) (.dat p) := fun g σ τ H x y Q ⟨S, hA⟩ k => by
  obtain ⟨b, vs, rfl, h2, h3⟩ := hA.isT (List.mem_cons_of_mem _ List.mem_cons_self)
  obtain ⟨w, h4, h5⟩ := atI_hds h3 h
  exact ⟨b, vs, j, w, rfl, hA.top.i, h2, h4, k _ H ⟨S, hA.pop.pop.push h5⟩⟩

/-! ### slices -/
def cutL {α : Type} (xs : List α) (lo hi : Option Int) : List α := (xs.drop (HT.sIx xs.length 0 lo)).take (HT.sIx xs.length xs.length hi - HT.sIx xs.length 0 lo)
theorem cutL_map (xs : List α) (lo hi : Option Int) : (cutL xs lo hi).map e = cutL (xs.map e) lo hi := by
  unfold cutL
  rw [List.map_take, List.map_drop, List.length_map]
theorem cut_hds {vs : List V} (d : Hds K S ps vs) (lo hi : Option Int) : Hds K S (cutL ps lo hi) (cutV vs lo hi) := by
  unfold cutL cutV
  rw [d.len]
  exact (d.drop _).take _
/-- a bound of a slice -/
def EVO (K : PySem.W.Frag) (Γ : List (Option Tm)) (to : TO) (o : Option Int) : Prop := ∀ g σ τ H (Q : Option Int → Hp → Prop), At K g Γ σ τ H → (∀ H', At K g Γ σ τ H' → Q o H') → to σ H Q
theorem evo_none : EVO K Γ tNoPart none := fun g σ τ H Q hA k => k H hA
theorem evo_some {j : Int} (h : EV K Γ te (.dat (eI j))) : EVO K Γ (tPart te) (some j) := fun g σ τ H Q hA k => h g σ τ H _ hA fun v H' ⟨S, h'⟩ => ⟨j, h'.top.i, k H' ⟨S, h'.pop⟩⟩
def O1S (K : PySem.W.Frag) (Γ : List (Option Tm)) (r : V → Option Int → Option Int → Hp → VK → Prop) (t : Tm) (lo hi : Option Int) (z : Tm) : Prop := ∀ g σ τ H x (Q : VK), At K g Γ σ ((x, t) :: τ) H → (∀ v H', At K g Γ σ ((v, z) :: τ) H' → Q v H') → r x lo hi H Q
theorem ev_slice {r : V → Option Int → Option Int → Hp → VK → Prop} {tl th : TO} {lo hi : Option Int} (h : EV K Γ te t) (hl : EVO K Γ tl lo) (hh : EVO K Γ th hi) (ho : O1S K Γ r t lo hi z) : EV K Γ (tSl r te tl th) z := fun g σ τ H Q hA k =>
  h g σ τ H _ hA fun x H1 h1 => hl g σ _ H1 _ h1 fun H2 h2 => hh g σ _ H2 _ h2 fun H3 h3 => ho g σ τ H3 x Q h3 k
theorem o1_cutL {lo hi : Option Int} (hl : IsL Γ t ps) : O1S K Γ (rSlL K) t lo hi (.own none (.lst (cutL ps lo hi))) := fun g σ τ H x Q ⟨S, h⟩ k => by
  obtain ⟨a, vs, rfl, h2, h3⟩ := h.isL List.mem_cons_self hl
  exact ⟨a, vs, rfl, h2, fun p hn => k _ _ ⟨S, h.pop.fresh hn ⟨_, rfl, cut_hds h3 lo hi⟩⟩⟩
theorem o1_cutLT {xs : List α} {lo hi : Option Int} (hl : IsL Γ t (xs.map e)) : O1S K Γ (rSlL K) t lo hi (.own none (.lst ((cutL xs lo hi).map e))) := by
  rw [cutL_map]
  exact o1_cutL hl
theorem whole_cut {vs : List V} {lo hi : Option Int} (h : HT.sIx vs.length 0 lo = 0 ∧ HT.sIx vs.length vs.length hi = vs.length) : cutV vs lo hi = vs := by
  unfold cutV
  rw [h.1, h.2, List.drop_zero, Nat.sub_zero, List.take_length]
theorem o1_cutT {lo hi : Option Int} : O1S K Γ (rSlA K) (.dat (rT ps)) lo hi (.dat (rT (cutL ps lo hi))) := fun g σ τ H x Q ⟨S, h⟩ k => by
  obtain ⟨a, vs, rfl, h2, h3⟩ := Hd.t h.top
  have d := cut_hds h3 lo hi
  refine ⟨a, vs, rfl, same_t h.base.sh h2, fun hw => k _ H ⟨S, h.pop.push (.of ⟨a, vs, rfl, h2, by rw [whole_cut hw] at d; exact d⟩)⟩, fun _ p hn => k _ _ (h.pop.newT hn d)⟩
theorem o1_cutTT {xs : List α} {lo hi : Option Int} : O1S K Γ (rSlA K) (.dat (eT e xs)) lo hi (.dat (eT e (cutL xs lo hi))) := by
  unfold eT
  rw [cutL_map]
  exact o1_cutT

/-! ### + of tuples, of own lists -/
def catR {α : Type} (xs ys : List α) : R (List α) := gd (decide (xs.length + ys.length ≤ 1000000)) (xs ++ ys)
theorem le_line {n : Nat} (h : n ≤ 1000000) : n ≤ sizeLine := by rw [sizeLine_eq]; omega
theorem lt_line {n : Nat} (h : n < 1000000) : n < sizeLine := by rw [sizeLine_eq]; omega
theorem o2_catP (hz : ps.length + qs.length ≤ 1000000) : O2 K Γ (rCatA K) (.dat (rT ps)) (.dat (rT qs)) (.dat (rT (ps ++ qs))) := fun g σ τ H x y Q ⟨S, h⟩ k => by
  obtain ⟨a, vs, rfl, h2, h3⟩ := Hd.t h.pop.top
  obtain ⟨b, ws, rfl, k2, k3⟩ := Hd.t h.top
  have d := h3.append k3
  have hz' : vs.length + ws.length ≤ sizeLine := by rw [h3.len, k3.len]; exact le_line hz
  refine ⟨a, b, vs, ws, rfl, rfl, same_t h.base.sh h2, same_t h.base.sh k2, hz', fun e => ?_, fun _ e => ?_, fun _ _ p hn => k _ _ (h.pop.pop.newT hn d)⟩
  · refine k _ H ⟨S, h.pop.pop.push (.of ⟨b, ws, rfl, k2, ?_⟩)⟩
    rw [e] at d; exact d
  · refine k _ H ⟨S, h.pop.pop.push (.of ⟨a, vs, rfl, h2, ?_⟩)⟩
    rw [e, List.append_nil] at d; exact d
theorem o2_catT {xs ys : List α} : O2M K Γ (rCatA K) (.dat (eT e xs)) (.dat (eT e ys)) (catR xs ys) (fun c => .dat (eT e c)) := At.part2 fun h => by
  have := o2_catP (K := K) (Γ := Γ) (ps := xs.map e) (qs := ys.map e) (by rw [List.length_map, List.length_map]; exact of_decide_eq_true h)
  rw [← List.map_append] at this
  exact this
/-- an own list, or an alias of one -/
inductive IsO (G : List (Option Tm)) : Tm → List VP → Prop
  | als {i : Nat} {oa : Option Addr} {ps : List VP} (h : G[i]? = some (some (.own oa (.lst ps)))) : IsO G (.als i) ps
  | own {oa : Option Addr} {ps : List VP} : IsO G (.own oa (.lst ps)) ps
theorem AtS.isO (h : AtS K g S Γ σ τ H) (hm : (v, t) ∈ τ) (hl : IsO Γ t ps) : ∃ a vs, v = .ref a ∧ H a = some (.lst vs) ∧ Hds K S ps vs := by
  have q := h.all _ (List.mem_append_right _ hm)
  cases hl with
  | als hg =>
    obtain ⟨w, e, o, _⟩ := h.slot hg
    have q' : σ[_]? = some (some v) := q
    rw [e] at q'
    cases q'
    obtain ⟨a, o, h1, _, _, _, h4, vs, rfl, d⟩ := o
    exact ⟨a, vs, h1, h4, d⟩
  | own =>
    obtain ⟨a, o, h1, _, _, _, h4, vs, rfl, d⟩ := q
    exact ⟨a, vs, h1, h4, d⟩
theorem o2_catL {xs ys : List α} (h1 : IsO Γ t (xs.map e)) (h2 : IsO Γ u (ys.map e)) : O2M K Γ rCat t u (catR xs ys) (fun c => .own none (.lst (c.map e))) := At.part2 fun hz => fun g σ τ H x y Q ⟨S, h⟩ k => by
  obtain ⟨a, vs, rfl, a2, a3⟩ := h.isO (List.mem_cons_of_mem _ List.mem_cons_self) h1
  obtain ⟨b, ws, rfl, b2, b3⟩ := h.isO List.mem_cons_self h2
  have hz' : xs.length + ys.length ≤ 1000000 := of_decide_eq_true hz
  refine ⟨a, b, vs, ws, rfl, rfl, a2, b2, ?_, fun p hn => k _ _ ⟨S, h.pop.pop.fresh hn ⟨_, rfl, ?_⟩⟩⟩
  · rw [a3.len, b3.len, List.length_map, List.length_map]; exact le_line hz'
  · rw [List.map_append]; exact a3.append b3
end

/-! ### stepping into a reading -/
section
variable {σ : St} {H : Hp} {Q : VK} {ta tb te : TE} {t : TA} {r : R2}
theorem x_op (h : ta σ H fun x H1 => tb σ H1 fun y H2 => r x y H2 Q) : tOp r ta tb σ H Q := h
theorem x_un {r : V → Hp → VK → Prop} (h : ta σ H fun x H1 => r x H1 Q) : tUn r ta σ H Q := h
theorem x_cb1 {r : List V → Hp → VK → Prop} (h : ta σ H fun x H1 => r [x] H1 Q) : tCB r (tCons ta tNil) σ H Q := h
theorem x_cb2 {r : List V → Hp → VK → Prop} (h : ta σ H fun x H1 => tb σ H1 fun y H2 => r [x, y] H2 Q) : tCB r (tCons ta (tCons tb tNil)) σ H Q := h
theorem x_if {tc : TT} (h : tc σ H fun c H1 => if c = true then ta σ H1 Q else tb σ H1 Q) : tIf tc ta tb σ H Q := h
theorem x_bm1 {K : PySem.W.Frag} {T : String} {r : V → List V → Hp → VK → Prop} (h : ta σ H fun x H1 => tyV K T x H1 ∧ tb σ H1 fun y H2 => r x [y] H2 Q) : tBM K T r ta (tCons tb tNil) σ H Q := h
theorem x_bm0 {K : PySem.W.Frag} {T : String} {r : V → List V → Hp → VK → Prop} (h : ta σ H fun x H1 => tyV K T x H1 ∧ r x [] H1 Q) : tBM0 K T r ta σ H Q := h
theorem x_drop {u : TS} {D : Ends} (h : te σ H fun _ H1 => u D σ H1) : tSeq (tDrop te) u D σ H := h
theorem x_asg {u : TS} {D : Ends} {g : TG} (h : te σ H fun x H1 => g x σ H1 (u D)) : tSeq (tAsg te g) u D σ H := h
theorem x_ret {u : TS} {D : Ends} (h : te σ H D.rt) : tSeq (tRet te) u D σ H := h
theorem x_ifS {u w z : TS} {D : Ends} {tc : TT} (h : tc σ H fun b H1 => if b = true then u { D with nx := z D } σ H1 else w { D with nx := z D } σ H1) : tSeq (tIfS tc u w) z D σ H := h
theorem x_test {te : TE} {Q : Bool → Hp → Prop} (h : te σ H fun x H' => ∃ k, x = .bl k ∧ Q k H') : tTest te σ H Q := h
theorem x_B {te : TE} {Q : Bool → Hp → Prop} (h : te σ H fun x H' => ∃ k, x = .bl k ∧ Q k H') : tB te σ H Q := h
end

/-! ### errors, def's promises -/
/-- an exception's own dict -/
def XF (K : PySem.W.Frag) (S : Hp) (x : Er) (d : Option Addr) : Prop :=
  (x.fs = [] ∧ d = none) ∨ ∃ dd fsV, d = some dd ∧ S dd = some (.xd fsV) ∧ Paired (fun (p : Str × PyData) (q : Str × V) => p.1 = q.1 ∧ Hd K (eD p.2) q.2 S) x.fs fsV
def ErP (K : PySem.W.Frag) (EC : Str → Addr) (g : Gh) (Gw : List (Option Tm)) (x : Er) (EW : St → XK) : Prop :=
  ∀ σ' H' S' d, AtS K g S' Gw σ' [] H' → XF K S' x d → EW σ' (.ref (EC x.c)) d H'
def Spec (K : PySem.W.Frag) (EC : Str → Addr) {α ρ : Type} (n : Nat) (pre : α → List Addr → List (Option Tm)) (m : α → R ρ) (post : ρ → List Addr → List (Option Tm)) (ret : ρ → Tm) : Sp := fun vs H Q E =>
  vs.length = n ∧ ∃ (x : α) (as : List Addr) (g : Gh), (pre x as).length = n ∧ At K g (pre x as) (vs.map some) [] H ∧
    OutR (m x) (fun r => ∀ v H' σ', At K g (post r as) σ' [(v, ret r)] H' → Q v H') (fun x => ErP K EC g [] x fun _ => E)

/-- an argument: a datum, or the own cell of slot i -/
inductive AK where
  | d (p : VP)
  | o (i : Nat) (oa : Option Addr) (c : Cell)
def AK.tm : AK → Tm
  | .d p => .dat p
  | .o i _ _ => .als i
def preOf : List AK → List Addr → List (Option Tm)
  | [], _ => []
  | .d p :: A, as => some (.dat p) :: preOf A as
  | .o _ _ c :: A, a :: as => some (.own (some a) c) :: preOf A as
  | .o _ _ c :: A, [] => some (.own none c) :: preOf A []
/-- what the callee leaves of its own arguments, by its places -/
def postOf : List AK → List Cell → List Addr → List (Option Tm)
  | [], _, _ => []
  | .d _ :: A, cs, as => none :: postOf A cs as
  | .o _ _ _ :: A, c :: cs, a :: as => some (.own (some a) c) :: postOf A cs as
  | .o _ _ _ :: A, _, _ => none :: postOf A [] []
/-- the caller's slots behind the call -/
def newG : List AK → List Cell → List (Option Tm) → List (Option Tm)
  | [], _, G => G
  | .d _ :: A, cs, G => newG A cs G
  | .o i oa _ :: A, c :: cs, G => (newG A cs (G.set i none)).set i (some (.own oa c))
  | .o i _ _ :: A, [], G => newG A [] (G.set i none)
def dropG : List AK → List (Option Tm) → List (Option Tm)
  | [], G => G
  | .d _ :: A, G => dropG A G
  | .o i _ _ :: A, G => dropG A (G.set i none)
/-- the own arguments are slots of the caller, no one twice -/
def OkA : List AK → List (Option Tm) → Prop
  | [], _ => True
  | .d _ :: A, G => OkA A G
  | .o i oa c :: A, G => G[i]? = some (some (.own oa c)) ∧ OkA A (G.set i none)
def nOwn : List AK → Nat
  | [] => 0
  | .d _ :: A => nOwn A
  | .o _ _ _ :: A => nOwn A + 1

/-- AtS without the aliases' slots -/
structure At0 (K : PySem.W.Frag) (g : Gh) (S : Hp) (Γ : List (Option Tm)) (σ : St) (τ : List (V × Tm)) (H : Hp) : Prop where
  base : Base g S H
  len : Γ.length ≤ σ.length
  all : ∀ x ∈ pack σ Γ ++ τ, One K g S H σ x
  ns : ∀ x ∈ pack σ Γ, ∀ j, x.2 ≠ .als j
  nd : (addrs (pack σ Γ ++ τ)).Nodup
def ownE : List AK → List Addr → List (V × Tm)
  | [], _ => []
  | .d _ :: A, as => ownE A as
  | .o _ oa c :: A, a :: as => (.ref a, .own oa c) :: ownE A as
  | .o _ _ _ :: A, [] => ownE A []
def ownE' : List AK → List Cell → List Addr → List (V × Tm)
  | [], _, _ => []
  | .d _ :: A, cs, as => ownE' A cs as
  | .o _ oa _ :: A, c :: cs, a :: as => (.ref a, .own oa c) :: ownE' A cs as
  | .o _ _ _ :: A, _, _ => ownE' A [] []

section
variable {K : PySem.W.Frag} {Γ : List (Option Tm)} {g : Gh} {S H : Hp} {σ : St} {τ : List (V × Tm)} {v x y : V} {t u z w : Tm} {p q : VP} {ps qs : List VP} {i : Nat}
theorem AtS.at0 (h : AtS K g S Γ σ τ H) : At0 K g S Γ σ τ H := ⟨h.base, h.len, h.all, h.ns, h.nd⟩
theorem At0.take {oa : Option Addr} {c : Cell} (h : At0 K g S Γ σ τ H) (e : Γ[i]? = some (some (.own oa c))) : ∃ a, σ[i]? = some (some (.ref a)) ∧ OwnAt K g S H (.ref a) oa c ∧ At0 K g S (Γ.set i none) σ ((.ref a, .own oa c) :: τ) H := by
  rcases pack_get e h.len with ⟨v, h1, h2⟩ | b
  · have q := h.all _ (List.mem_append_left _ (h2.mem_iff.mpr List.mem_cons_self))
    obtain ⟨a, o, e1, r⟩ := id q
    have e1' : v = V.ref a := e1
    subst e1'
    have p : (pack σ Γ ++ τ).Perm (pack σ (Γ.set i none) ++ (V.ref a, Tm.own oa c) :: τ) := (h2.append_right τ).trans List.perm_middle.symm
    exact ⟨a, h1, q, h.base, by rw [List.length_set]; exact h.len, fun x hx => h.all x (p.mem_iff.mpr hx), fun x hx => h.ns x ((pack_drop Γ σ i).subset hx), (addrs_perm p).nodup_iff.mp h.nd⟩
  · exact (h.all _ (List.mem_append_left _ b)).elim
theorem At0.put (h : At0 K g S Γ σ ((v, t) :: τ) H) (hi : i < Γ.length) (e : σ[i]? = some (some v)) (ht : ∀ j, t ≠ .als j) (hn : Γ[i]? = some none) : At0 K g S (Γ.set i (some t)) σ τ H := by
  have hs : σ.set i (some v) = σ := by
    apply List.ext_getElem?
    intro j
    by_cases hj : i = j
    · subst hj
      rw [List.getElem?_set_self (List.getElem?_eq_some_iff.mp e).1, e]
    · rw [List.getElem?_set_ne hj]
  have eΓ : Γ.set i none = Γ := by
    apply List.ext_getElem?
    intro j
    by_cases hj : i = j
    · subst hj
      rw [List.getElem?_set_self hi, hn]
    · rw [List.getElem?_set_ne hj]
  have p := pack_set (Γ := Γ) (σ := σ) (i := i) v t hi h.len
  rw [hs, eΓ] at p
  have p2 : (pack σ (Γ.set i (some t)) ++ τ).Perm (pack σ Γ ++ (v, t) :: τ) := (p.append_right τ).trans List.perm_middle.symm
  refine ⟨h.base, by rw [List.length_set]; exact h.len, fun x hx => h.all x (p2.mem_iff.mp hx), fun x hx j => ?_, (addrs_perm p2).nodup_iff.mpr h.nd⟩
  rcases List.mem_cons.mp (p.mem_iff.mp hx) with rfl | hx
  · exact ht j
  · exact h.ns x hx j

/-- what is known of the arguments -/
inductive Args (K : PySem.W.Frag) (g : Gh) (S H : Hp) (σ : St) : List AK → List V → List Addr → Prop
  | nil : Args K g S H σ [] [] []
  | d {p : VP} {v : V} {A : List AK} {vs : List V} {as : List Addr} : Hd K p v S → Args K g S H σ A vs as → Args K g S H σ (.d p :: A) (v :: vs) as
  | o {i : Nat} {oa : Option Addr} {c : Cell} {a : Addr} {A : List AK} {vs : List V} {as : List Addr} : σ[i]? = some (some (.ref a)) → OwnAt K g S H (.ref a) oa c → Args K g S H σ A vs as → Args K g S H σ (.o i oa c :: A) (.ref a :: vs) (a :: as)
theorem AtS.pops : ∀ {l : List (V × Tm)} {τ : List (V × Tm)}, AtS K g S Γ σ (l ++ τ) H → AtS K g S Γ σ τ H
  | [], _, h => h
  | _ :: l, _, h => AtS.pops (l := l) h.pop
/-- the arguments on the stack -/
theorem args_of : ∀ {A : List AK} {vs : List V} {Γ : List (Option Tm)} {τ : List (V × Tm)}, (∀ x ∈ (vs.zip (A.map AK.tm)), One K g S H σ x) → vs.length = A.length → OkA A Γ → At0 K g S Γ σ τ H →
    ∃ as, Args K g S H σ A vs as ∧ At0 K g S (dropG A Γ) σ (ownE A as ++ τ) H
  | [], [], Γ, τ, _, _, _, h0 => ⟨[], .nil, h0⟩
  | [], _ :: _, _, _, _, e, _, _ => by simp at e
  | _ :: _, [], _, _, _, e, _, _ => by simp at e
  | .d p :: A, v :: vs, Γ, τ, h, e, ok, h0 => by
    obtain ⟨as, h1, h2⟩ := args_of (A := A) (vs := vs) (Γ := Γ) (τ := τ) (fun x hx => h x (by simp [hx])) (by simpa using e) ok h0
    exact ⟨as, .d (h (v, .dat p) (by simp [AK.tm])) h1, h2⟩
  | .o i oa c :: A, v :: vs, Γ, τ, h, e, ok, h0 => by
    obtain ⟨a, e1, ow, h3⟩ := h0.take ok.1
    have q : σ[i]? = some (some v) := h (v, .als i) (by simp [AK.tm])
    rw [e1] at q
    obtain rfl : V.ref a = v := by simpa using q
    obtain ⟨as, h1, h2⟩ := args_of (A := A) (vs := vs) (Γ := Γ.set i none) (τ := (.ref a, .own oa c) :: τ) (fun x hx => h x (by simp [hx])) (by simpa using e) ok.2 h3
    refine ⟨a :: as, .o e1 ow h1, ?_⟩
    have pm : (pack σ (dropG A (Γ.set i none)) ++ (ownE A as ++ (V.ref a, Tm.own oa c) :: τ)).Perm (pack σ (dropG A (Γ.set i none)) ++ ((V.ref a, Tm.own oa c) :: ownE A as ++ τ)) := (List.perm_middle).append_left _
    exact ⟨h2.base, h2.len, fun x hx => h2.all x (pm.mem_iff.mpr hx), h2.ns, (addrs_perm pm).nodup_iff.mp h2.nd⟩
theorem addrs_ownE : ∀ {A : List AK} {vs : List V} {as : List Addr}, Args K g S H σ A vs as → addrs (ownE A as) = as
  | [], _, _, .nil => rfl
  | .d _ :: A, _, _, .d _ h => addrs_ownE (A := A) h
  | .o _ _ _ :: A, _, _, .o _ _ h => by simp [ownE, addrs, addrs_ownE (A := A) h]
theorem preOf_len : ∀ {A : List AK} {vs : List V} {as : List Addr}, Args K g S H σ A vs as → (preOf A as).length = vs.length
  | [], _, _, .nil => rfl
  | .d _ :: A, _, _, .d _ h => by simp [preOf, preOf_len (A := A) h]
  | .o _ _ _ :: A, _, _, .o _ _ h => by simp [preOf, preOf_len (A := A) h]
/-- how the callee finds its arguments -/
theorem pack_pre {F' : Hp} : ∀ {A : List AK} {vs : List V} {as : List Addr}, Args K g S H σ A vs as → (∀ a ∈ as, F' a = none) →
    (∀ x ∈ pack (vs.map some) (preOf A as), One K ⟨S, F'⟩ S H (vs.map some) x ∧ ∀ j, x.2 ≠ .als j) ∧ addrs (pack (vs.map some) (preOf A as)) = as := by
  intro A vs as h hf
  suffices ∀ σ', (∀ x ∈ pack (vs.map some) (preOf A as), One K ⟨S, F'⟩ S H σ' x ∧ ∀ j, x.2 ≠ .als j) ∧ addrs (pack (vs.map some) (preOf A as)) = as from this _
  intro σ'
  induction h with
  | nil => exact ⟨fun x hx => by simp [preOf, pack] at hx, rfl⟩
  | @d p v A vs as h1 _ ih =>
    obtain ⟨i1, i2⟩ := ih hf
    refine ⟨fun x hx => ?_, ?_⟩
    · rcases List.mem_cons.mp (show x ∈ (v, Tm.dat p) :: pack (vs.map some) (preOf A as) from hx) with rfl | hx
      · exact ⟨h1, fun j z => by cases z⟩
      · exact i1 x hx
    · show addrs ((v, Tm.dat p) :: pack (vs.map some) (preOf A as)) = as
      cases v <;> simpa [addrs] using i2
  | @o i oa c a A vs as h1 h2 _ ih =>
    obtain ⟨i1, i2⟩ := ih fun b hb => hf b (List.mem_cons_of_mem _ hb)
    refine ⟨fun x hx => ?_, ?_⟩
    · rcases List.mem_cons.mp (show x ∈ (V.ref a, Tm.own (some a) c) :: pack (vs.map some) (preOf A as) from hx) with rfl | hx
      · refine ⟨?_, fun j z => by cases z⟩
        obtain ⟨a', o, e, _, k2, _, k4, k5⟩ := h2
        cases e
        exact ⟨a, o, rfl, fun b e => (Option.some.inj e).symm, k2, hf a List.mem_cons_self, k4, k5⟩
      · exact i1 x hx
    · show addrs ((V.ref a, Tm.own (some a) c) :: pack (vs.map some) (preOf A as)) = a :: as
      simp [addrs, i2]
/-- what the callee leaves of them -/
theorem post_own {S2 H2 : Hp} {g' : Gh} {σ2 : St} : ∀ {A : List AK} {vs : List V} {as : List Addr} {cs : List Cell} {σ3 : St}, Args K g S H σ A vs as → cs.length = nOwn A → (∀ x ∈ pack σ3 (postOf A cs as), One K g' S2 H2 σ2 x) →
    (∀ x ∈ ownE' A cs as, One K g S2 H2 σ x) ∧ addrs (ownE' A cs as) = as ∧ ∀ a ∈ as, a ∈ addrs (pack σ3 (postOf A cs as)) := by
  intro A vs as cs σ3 h
  induction h generalizing cs σ3 with
  | nil => intro _ _; exact ⟨fun x hx => by simp [ownE'] at hx, rfl, fun a ha => by cases ha⟩
  | @d p v A vs as h1 _ ih =>
    intro hc hp
    exact ih (σ3 := σ3.tail) hc fun x hx => hp x hx
  | @o i oa c a A vs as h1 h2 _ ih =>
    intro hc hp
    cases cs with
    | nil => simp [nOwn] at hc
    | cons c' cs =>
      have hd : ∃ w r, (w, Tm.own (some a) c') ∈ pack σ3 (postOf (.o i oa c :: A) (c' :: cs) (a :: as)) ∧ r = σ3.tail ∧ (∀ x ∈ pack r (postOf A cs as), x ∈ pack σ3 (postOf (.o i oa c :: A) (c' :: cs) (a :: as))) := by
        cases σ3 with
        | nil =>
          exact ((hp (V.non, Tm.bad) (by simp [postOf, pack])) : False).elim
        | cons y r =>
          cases y with
          | none => exact ((hp (V.non, Tm.bad) (by simp [postOf, pack])) : False).elim
          | some w => exact ⟨w, r, by simp [postOf, pack], rfl, fun x hx => by simp [postOf, pack, hx]⟩
      obtain ⟨w, r, m1, _, m2⟩ := hd
      obtain ⟨i1, i2, i3⟩ := ih (cs := cs) (σ3 := r) (by simpa [nOwn] using hc) fun x hx => hp x (m2 x hx)
      obtain ⟨a1, o1, e1, e2, k2, _, k4, k5⟩ := hp _ m1
      have ea : a = a1 := e2 a rfl
      subst ea
      obtain ⟨a0, o0, e0, j1, _, j3, _, _⟩ := h2
      cases e0
      refine ⟨fun x hx => ?_, by simp [ownE', addrs, i2], fun b hb => ?_⟩
      rotate_left
      · have ew : w = V.ref a := e1
        rcases List.mem_cons.mp hb with rfl | hb
        · rw [ew] at m1
          exact mem_addrs m1
        · obtain ⟨oa2, c2, hx⟩ := addrs_mem (i3 b hb)
          exact mem_addrs (m2 _ hx)
      rcases List.mem_cons.mp (show x ∈ (V.ref a, Tm.own oa c') :: ownE' A cs as from hx) with rfl | hx
      · exact ⟨a, o1, rfl, j1, k2, j3, k4, k5⟩
      · exact i1 x hx
theorem newG_len : ∀ (A : List AK) (cs : List Cell) (G : List (Option Tm)), (newG A cs G).length = G.length
  | [], _, _ => rfl
  | .d _ :: A, cs, G => newG_len A cs G
  | .o i _ _ :: A, c :: cs, G => by simp [newG, newG_len A cs]
  | .o i _ _ :: A, [], G => by simp [newG, newG_len A []]
/-- slots that are no arguments stay -/
theorem newG_none : ∀ (A : List AK) (cs : List Cell) (G : List (Option Tm)) (i : Nat), G[i]? = some none → OkA A G → (newG A cs G)[i]? = some none
  | [], _, _, _, h, _ => h
  | .d _ :: A, cs, G, i, h, ok => newG_none A cs G i h ok
  | .o j oa c :: A, c' :: cs, G, i, h, ok => by
    have hj : j ≠ i := fun z => by rw [z] at ok; rw [ok.1] at h; cases h
    show ((newG A cs (G.set j none)).set j _)[i]? = some none
    rw [List.getElem?_set_ne hj]
    exact newG_none A cs (G.set j none) i (by rw [List.getElem?_set_ne hj]; exact h) ok.2
  | .o j oa c :: A, [], G, i, h, ok => by
    have hj : j ≠ i := fun z => by rw [z] at ok; rw [ok.1] at h; cases h
    exact newG_none A [] (G.set j none) i (by rw [List.getElem?_set_ne hj]; exact h) ok.2
theorem newG_own : ∀ (A : List AK) (cs : List Cell) (G : List (Option Tm)) (k : Nat), cs.length = nOwn A → OkA A G → (∃ oa c, G[k]? = some (some (.own oa c))) → ∃ oa c, (newG A cs G)[k]? = some (some (.own oa c))
  | [], _, _, _, _, _, h => h
  | .d _ :: A, cs, G, k, hc, ok, h => newG_own A cs G k hc ok h
  | .o j oa c :: A, [], G, k, hc, ok, h => by simp [nOwn] at hc
  | .o j oa c :: A, c' :: cs, G, k, hc, ok, h => by
    by_cases hj : j = k
    · subst hj
      refine ⟨oa, c', ?_⟩
      show ((newG A cs (G.set j none)).set j _)[j]? = _
      rw [List.getElem?_set_self]
      rw [newG_len, List.length_set]
      exact (List.getElem?_eq_some_iff.mp ok.1).1
    · show ∃ oa' c'', ((newG A cs (G.set j none)).set j _)[k]? = _
      rw [List.getElem?_set_ne hj]
      exact newG_own A cs (G.set j none) k (by simpa [nOwn] using hc) ok.2 (by rw [List.getElem?_set_ne hj]; exact h)
/-- they come back to their slots -/
theorem put_back {S2 H2 : Hp} : ∀ {A : List AK} {vs : List V} {as : List Addr} {cs : List Cell} {Γ : List (Option Tm)} {τ : List (V × Tm)}, Args K g S H σ A vs as → cs.length = nOwn A → OkA A Γ →
    At0 K g S2 (dropG A Γ) σ (ownE' A cs as ++ τ) H2 → At0 K g S2 (newG A cs Γ) σ τ H2
  | [], _, _, _, _, _, .nil, _, _, h => h
  | .d _ :: A, _, _, _, _, _, .d _ a, hc, ok, h => put_back (A := A) a hc ok h
  | .o i oa c :: A, _, _, [], _, _, .o _ _ _, hc, _, _ => by simp [nOwn] at hc
  | .o i oa c :: A, _, a :: as, c' :: cs, Γ, τ, .o e1 ow ar, hc, ok, h => by
    have pm : (pack σ (dropG A (Γ.set i none)) ++ ((V.ref a, Tm.own oa c') :: ownE' A cs as ++ τ)).Perm (pack σ (dropG A (Γ.set i none)) ++ (ownE' A cs as ++ (V.ref a, Tm.own oa c') :: τ)) := (List.perm_middle.symm).append_left _
    have h' : At0 K g S2 (dropG A (Γ.set i none)) σ (ownE' A cs as ++ (V.ref a, Tm.own oa c') :: τ) H2 := ⟨h.base, h.len, fun x hx => h.all x (pm.mem_iff.mpr hx), h.ns, (addrs_perm pm).nodup_iff.mp h.nd⟩
    have h2 := put_back (A := A) ar (by simpa [nOwn] using hc) ok.2 h'
    have hi : i < Γ.length := (List.getElem?_eq_some_iff.mp ok.1).1
    refine h2.put (i := i) (by rw [newG_len, List.length_set]; exact hi) e1 (fun j z => by cases z) ?_
    exact newG_none A cs (Γ.set i none) i (List.getElem?_set_self hi) ok.2

theorem Args.inF : ∀ {A : List AK} {vs : List V} {as : List Addr}, Args K g S H σ A vs as → ∀ a ∈ as, g.F a = none ∧ S a = none
  | _, _, _, .nil, a, h => by cases h
  | _, _, _, .d _ r, a, h => Args.inF r a h
  | _, _, _, .o _ ow r, a, h => by
    rcases List.mem_cons.mp h with rfl | h
    · obtain ⟨a', o, e, _, k2, k3, _⟩ := ow
      cases e
      exact ⟨k3, k2⟩
    · exact Args.inF r a h
theorem Args.n {A : List AK} {vs : List V} {as : List Addr} (h : Args K g S H σ A vs as) : as.length = nOwn A := by
  induction h with
  | nil => rfl
  | d _ _ ih => exact ih
  | o _ _ _ ih => simp [nOwn, ih]
/-- THE CALL of a def by its promise -/
theorem f_call {EC : Str → Addr} {α ρ : Type} {n : Nat} {pre : α → List Addr → List (Option Tm)} {m : α → R ρ} {post : ρ → List Addr → List (Option Tm)} {ret : ρ → Tm} {Q : VK} {vs : List V} {Γw : List (Option Tm)} {EW : St → XK}
    (A : List AK) (arg : α) (cs : ρ → List Cell) (hA : At K g Γ σ ((vs.zip (A.map AK.tm)).reverse ++ τ) H) (hl : vs.length = A.length) (hn : A.length = n) (ok : OkA A Γ)
    (hpre : ∀ as, as.length = nOwn A → pre arg as = preOf A as) (hcs : ∀ r, (cs r).length = nOwn A) (hpost : ∀ r as, as.length = nOwn A → post r as = postOf A (cs r) as) (hret : ∀ r j, ret r ≠ .als j) (hw : Le Γw (dropG A Γ))
    (hm : OutR (m arg) (fun r => ∀ v H', At K g (newG A (cs r) Γ) σ ((v, ret r) :: τ) H' → Q v H') (fun x => ErP K EC g Γw x EW)) : Spec K EC n pre m post ret vs H Q (EW σ) := by
  obtain ⟨S, h⟩ := hA
  have hl2 : vs.length = (A.map AK.tm).length := by simpa using hl
  have hτ := h.pops
  obtain ⟨as, ar, h0⟩ := args_of (A := A) (vs := vs) (Γ := Γ) (τ := τ) (fun x hx => h.all x (List.mem_append_right _ (List.mem_append_left _ (List.mem_reverse.mpr hx)))) hl ok hτ.at0
  have hcl := ar.n
  have nd0 := h0.nd
  have ndas : as.Nodup := by
    rw [addrs_append, addrs_append, addrs_ownE ar] at nd0
    exact (List.nodup_append.mp (List.nodup_append.mp nd0).2.1).1
  refine ⟨by rw [hl, hn], arg, as, ⟨S, fun b => if b ∈ as then none else H b⟩, by rw [hpre _ hcl, preOf_len ar, hl, hn], ?_, ?_⟩
  · rw [hpre _ hcl]
    obtain ⟨p1, p2⟩ := pack_pre (F' := fun b => if b ∈ as then none else H b) ar fun a ha => if_pos ha
    refine ⟨S, ⟨Same.refl S, h.base.sh, fun b o e => ?_, fun b _ h0 => h0⟩, ?_, fun x hx => ?_, fun x hx => ?_, fun x hx => (by cases hx), ?_⟩
    · have e : (if b ∈ as then none else H b) = some o := e
      by_cases hb : b ∈ as
      · rw [if_pos hb] at e; cases e
      · rw [if_neg hb] at e; exact e
    · rw [preOf_len ar, List.length_map]; exact Nat.le_refl _
    · rw [List.append_nil] at hx
      exact (p1 x hx).1
    · exact (p1 x hx).2
    · rw [List.append_nil, p2]; exact ndas
  · have F1 : ∀ b, (if b ∈ as then none else H b) = none → g.F b = none := fun b e => by
      by_cases hb : b ∈ as
      · exact (ar.inF b hb).1
      · rw [if_neg hb] at e
        cases e2 : g.F b with
        | none => rfl
        | some o => rw [h.base.fh b o e2] at e; cases e
    have F2 : ∀ b o, g.F b = some o → (if b ∈ as then none else H b) = some o := fun b o e => by
      have hb : b ∉ as := fun z => by rw [(ar.inF b z).1] at e; cases e
      rw [if_neg hb]; exact h.base.fh b o e
    -- the ground behind the call
    have ground : ∀ {S2 H2 : Hp}, Base ⟨S, fun b => if b ∈ as then none else H b⟩ S2 H2 → Base g S2 H2 := fun {S2 H2} B =>
      ⟨h.base.s0.trans B.s0, B.sh, fun b o e => B.fh b o (F2 b o e), fun b hb h0' => B.fs b (by
        obtain ⟨o, e⟩ := Option.ne_none_iff_exists'.mp hb
        show (if b ∈ as then none else H b) ≠ none
        rw [F2 b o e]; exact Option.some_ne_none o) (h.base.fs b hb h0')⟩
    have stay : ∀ {S2 H2 : Hp} {x : V × Tm}, Base ⟨S, fun b => if b ∈ as then none else H b⟩ S2 H2 → (∀ a oa c, x = (.ref a, .own oa c) → a ∉ as) → One K g S H σ x → One K g S2 H2 σ x := fun {S2 H2 x} B ha q => by
      obtain ⟨v, t⟩ := x
      refine q.keep B.s0 fun b ht hv => ?_
      obtain ⟨oa, c, rfl⟩ := ht
      subst hv
      have hb := ha b oa c rfl
      obtain ⟨a', o, e, _, k2, _, k4, _⟩ := q
      cases e
      have eF : (if b ∈ as then none else H b) = some o := by rw [if_neg hb]; exact k4
      exact ⟨(B.fs b (by show (if b ∈ as then none else H b) ≠ none; rw [eF]; exact Option.some_ne_none o) k2).trans k2.symm, (B.fh b o eF).trans k4.symm⟩
    have apart : ∀ x ∈ pack σ (dropG A Γ) ++ τ, ∀ a oa c, x = (V.ref a, Tm.own oa c) → a ∉ as := fun x hx a oa c e ha => by
      subst e
      have pm : (pack σ (dropG A Γ) ++ (ownE A as ++ τ)).Perm (ownE A as ++ (pack σ (dropG A Γ) ++ τ)) := by
        rw [← List.append_assoc, ← List.append_assoc]
        exact (List.perm_append_comm).append_right τ
      have nd1 := (addrs_perm pm).nodup_iff.mp nd0
      rw [addrs_append, addrs_ownE ar] at nd1
      exact (List.nodup_append.mp nd1).2.2 a ha a (mem_addrs hx) rfl
    refine hm.imp (fun r k v H2 σ2 h2 => ?_) fun x k σ2 H2 S2 dd h2 => ?_
    · obtain ⟨S2, h2⟩ := h2
      rw [hpost r as hcl] at h2
      obtain ⟨o1, o2, o3⟩ := post_own (g := g) (S := S) (H := H) (σ := σ) (g' := ⟨S, fun b => if b ∈ as then none else H b⟩) (S2 := S2) (H2 := H2) (σ2 := σ2) (σ3 := σ2) ar (hcs r) fun x hx => h2.all x (List.mem_append_left _ hx)
      have top : One K g S2 H2 σ (v, ret r) := by
        have q := h2.top
        cases e : ret r with
        | dat p => rw [e] at q; exact q
        | own oa c =>
          rw [e] at q
          obtain ⟨a, o, e1, e2, e3, e4, e5, e6⟩ := q
          exact ⟨a, o, e1, e2, e3, F1 a e4, e5, e6⟩
        | als j => exact absurd e (hret r j)
        | bad => rw [e] at q; exact q
      have B := ground h2.base
      have fin : At0 K g S2 (dropG A Γ) σ (ownE' A (cs r) as ++ (v, ret r) :: τ) H2 := by
        refine ⟨B, h0.len, fun x hx => ?_, h0.ns, ?_⟩
        · rcases List.mem_append.mp hx with hx | hx
          · exact stay h2.base (apart x (List.mem_append_left _ hx)) (h0.all x (List.mem_append_left _ hx))
          · rcases List.mem_append.mp hx with hx | hx
            · exact o1 x hx
            · rcases List.mem_cons.mp hx with rfl | hx
              · exact top
              · exact stay h2.base (apart x (List.mem_append_right _ hx)) (h0.all x (List.mem_append_right _ (List.mem_append_right _ hx)))
        · have base_nd : (addrs (pack σ (dropG A Γ) ++ (ownE' A (cs r) as ++ τ))).Nodup := by
            rw [addrs_append, addrs_append, o2, ← addrs_ownE ar, ← addrs_append, ← addrs_append]
            exact nd0
          have pm : (pack σ (dropG A Γ) ++ (ownE' A (cs r) as ++ (v, ret r) :: τ)).Perm ((v, ret r) :: (pack σ (dropG A Γ) ++ (ownE' A (cs r) as ++ τ))) := by
            have p1 : (ownE' A (cs r) as ++ (v, ret r) :: τ).Perm ((v, ret r) :: (ownE' A (cs r) as ++ τ)) := List.perm_middle
            exact (p1.append_left _).trans List.perm_middle
          refine (addrs_perm pm).nodup_iff.mpr ?_
          cases ev : v with
          | ref b =>
            cases et : ret r with
            | own oa c =>
              show (b :: addrs (pack σ (dropG A Γ) ++ (ownE' A (cs r) as ++ τ))).Nodup
              refine List.nodup_cons.mpr ⟨fun hb => ?_, base_nd⟩
              have q := h2.top
              rw [ev, et] at q
              obtain ⟨b', o, e1, _, _, e4, _, _⟩ := q
              cases e1
              have e4' : (if b ∈ as then none else H b) = none := e4
              have nb : b ∉ as := fun hbas => by
                have n2 := h2.nd
                rw [addrs_append, ev, et] at n2
                exact (List.nodup_append.mp n2).2.2 b (o3 b hbas) b (by simp [addrs]) rfl
              rw [if_neg nb] at e4'
              obtain ⟨oa', c', hx⟩ := addrs_mem hb
              have inold : (V.ref b, Tm.own oa' c') ∈ pack σ (dropG A Γ) ++ τ := by
                rcases List.mem_append.mp hx with hx | hx
                · exact List.mem_append_left _ hx
                · rcases List.mem_append.mp hx with hx | hx
                  · exact absurd (by have := mem_addrs hx; rw [o2] at this; exact this) nb
                  · exact List.mem_append_right _ hx
              have q2 : One K g S H σ (V.ref b, Tm.own oa' c') := by
                rcases List.mem_append.mp inold with hx | hx
                · exact h0.all _ (List.mem_append_left _ hx)
                · exact h0.all _ (List.mem_append_right _ (List.mem_append_right _ hx))
              obtain ⟨b', o', e1, _, _, _, e5, _⟩ := q2
              cases e1
              rw [e4'] at e5; cases e5
            | dat p => exact base_nd
            | als j => exact base_nd
            | bad => exact base_nd
          | _ => cases ret r <;> exact base_nd
      have h3 := put_back (A := A) (cs := cs r) (Γ := Γ) (τ := (v, ret r) :: τ) ar (hcs r) ok fin
      refine k v H2 ⟨S2, h3.base, h3.len, h3.all, h3.ns, fun x hx j e => ?_, h3.nd⟩
      rcases List.mem_cons.mp hx with rfl | hx
      · exact absurd e (hret r j)
      · exact newG_own A (cs r) Γ j (hcs r) ok (hτ.al x hx j e)
    · intro hxf
      have fin : AtS K g S2 (dropG A Γ) σ [] H2 := by
        refine ⟨ground h2.base, h0.len, fun x hx => ?_, h0.ns, fun x hx => (by cases hx), ?_⟩
        · rw [List.append_nil] at hx
          exact stay h2.base (apart x (List.mem_append_left _ hx)) (h0.all x (List.mem_append_left _ hx))
        · rw [List.append_nil]
          rw [addrs_append] at nd0
          exact (List.nodup_append.mp nd0).1
      have fin2 : AtS K g S2 Γw σ [] H2 := by
        have sub : (pack σ Γw ++ []).Sublist (pack σ (dropG A Γ) ++ []) := (hw.sub σ).append_right []
        exact ⟨fin.base, Nat.le_trans hw.len fin.len, fun x hx => fin.all x (sub.subset hx), fun x hx => fin.ns x ((hw.sub σ).subset hx), fun x hx => (by cases hx), fin.nd.sublist (addrs_sub sub)⟩
      exact k σ H2 S2 dd fin2 hxf
end
end Gv

set_option Elab.async false
set_option linter.all false
set_option maxRecDepth 100000
set_option maxHeartbeats 1000000
/-! Gv: statements, loops, comprehensions, defs -/
namespace Gv
open PySem L2

structure Fx (ρ : Type) where
  EC : Str → Addr
  post : ρ → List (Option Tm)
  ret : ρ → Tm
  Gw : List (Option Tm)
  EW : St → XK
abbrev NxW (K : PySem.W.Frag) (g : Gh) {α : Type} (n : α → List (Option Tm)) (P : St → Hp → Prop) : α → Prop := fun a => ∀ σ' H', At K g (n a) σ' [] H' → P σ' H'
abbrev RtW (K : PySem.W.Frag) (g : Gh) {ρ : Type} (X : Fx ρ) (P : VK) : ρ → Prop := fun r => ∀ v H' σ', At K g (X.post r) σ' [(v, X.ret r)] H' → P v H'
abbrev ErW (K : PySem.W.Frag) (g : Gh) {ρ : Type} (X : Fx ρ) : Er → Prop := fun x => ErP K X.EC g X.Gw x X.EW
/-- a block does what the mirror tells -/
def BJ (K : PySem.W.Frag) {ρ lam α : Type} (X : Fx ρ) (Γ : List (Option Tm)) (ts : TS) (m : O ρ lam α) (n : α → List (Option Tm)) (b c : lam → List (Option Tm)) : Prop :=
  ∀ g σ H (D : Ends), At K g Γ σ [] H → Out m (NxW K g n D.nx) (RtW K g X D.rt) (NxW K g b D.bk) (NxW K g c D.ct) (ErW K g X) → ts D σ H

section
variable {K : PySem.W.Frag} {ρ lam α β γ : Type} {X : Fx ρ} {Γ Γ' : List (Option Tm)} {n : α → List (Option Tm)} {b c : lam → List (Option Tm)} {t u : TS} {ta tb te : TE} {tc : TT} {m m1 m2 : O ρ lam α} {i : Nat} {p : VP}

theorem bj_nx {a : α} (l : Le (n a) Γ) : BJ K X Γ tNext (.nx a : O ρ lam α) n b c := fun g σ H D hA hm => hm σ H (hA.weak l)
theorem bj_bk {a : lam} (l : Le (b a) Γ) : BJ K X Γ (tSeq tBreak u) (.bk a : O ρ lam α) n b c := fun g σ H D hA hm => hm σ H (hA.weak l)
theorem bj_ct {a : lam} (l : Le (c a) Γ) : BJ K X Γ (tSeq tCont u) (.ct a : O ρ lam α) n b c := fun g σ H D hA hm => hm σ H (hA.weak l)
theorem bj_pass (h : BJ K X Γ u m n b c) : BJ K X Γ (tSeq tNext u) m n b c := h
theorem bj_ret {r : ρ} (he : EV K Γ te (X.ret r)) (hr : ∀ j, X.ret r ≠ .als j) (l : Le (X.post r) Γ) : BJ K X Γ (tSeq (tRet te) u) (.rt r : O ρ lam α) n b c := fun g σ H D hA hm =>
  he g σ [] H D.rt hA fun v H' h' => hm v H' σ (h'.weak1 l hr)
theorem bj_retN {r : ρ} (hr : X.ret r = .dat eN) (l : Le (X.post r) Γ) : BJ K X Γ (tSeq tRetN u) (.rt r : O ρ lam α) n b c := fun g σ H D hA hm =>
  hm .non H σ (by
    have : At K g Γ σ [(.non, .dat eN)] H := hA.scal fun _ => rfl
    rw [hr]
    exact this.weak1 l fun j z => by cases z)
/-- return of an own list that stands in a slot -/
theorem bj_retO {r : ρ} {oa : Option Addr} {cl : Cell} (hg : Γ[i]? = some (some (.own oa cl))) (hr : X.ret r = .own none cl) (l : Le (X.post r) (Γ.set i none)) : BJ K X Γ (tSeq (tRet (tVar i)) u) (.rt r : O ρ lam α) n b c := fun g σ H D ⟨S, hA⟩ hm => by
  obtain ⟨a, e1, ow, h0⟩ := hA.at0.take hg
  refine ⟨.ref a, e1, hm (.ref a) H σ ?_⟩
  rw [hr]
  refine At.weak1 ⟨S, h0.base, h0.len, fun x hx => ?_, h0.ns, fun x hx k e => ?_, ?_⟩ l (fun j z => by cases z)
  · rcases List.mem_append.mp hx with hx | hx
    · exact h0.all x (List.mem_append_left _ hx)
    · have : x = (V.ref a, Tm.own none cl) := by simpa using hx
      subst this
      obtain ⟨a', o, e, _, k⟩ := ow
      exact ⟨a', o, e, fun b z => (nomatch z), k⟩
  · have : x = (V.ref a, Tm.own none cl) := by simpa using hx
    subst this
    cases e
  · have := h0.nd
    rw [addrs_append] at this ⊢
    exact this
/-- return of an own list, frozen -/
theorem bj_retF {r : ρ} {oa : Option Addr} {ps : List VP} (hg : Γ[i]? = some (some (.own oa (.lst ps)))) (hr : X.ret r = .dat (rL ps)) (l : Le (X.post r) (Γ.set i none)) : BJ K X Γ (tSeq (tRet (tVar i)) u) (.rt r : O ρ lam α) n b c := fun g σ H D hA hm => by
  refine bj_retO (K := K) (X := { X with ret := fun _ => .own none (.lst ps) }) (u := u) (n := n) (b := b) (c := c) (r := r) hg rfl l g σ H D hA (fun v H' σ' h' => ?_)
  have := h'.frz
  rw [← hr] at this
  exact hm v H' σ' this
theorem bj_seq {n1 : β → List (Option Tm)} {m1 : O ρ lam β} {f : β → O ρ lam α} (h1 : BJ K X Γ t m1 n1 b c) (h2 : ∀ a, BJ K X (n1 a) u (f a) n b c) : BJ K X Γ (tSeq t u) (m1.bind f) n b c := fun g σ H D hA hm =>
  h1 g σ H { D with nx := u D } hA (hm.bind.imp (fun a q σ' H' h' => h2 a g σ' H' D h' q) (fun _ q => q) (fun _ q => q) (fun _ q => q) fun _ q => q)
/-- a = e -/
theorem bj_asg {f : β → O ρ lam α} {e : β} (tm : β → Tm) (he : EV K Γ te (tm e)) (hn : ∀ t j, tm t ≠ .als j) (h : ∀ t, BJ K X (Γ.set i (some (tm t))) u (f t) n b c) (hi : Γ[i]?.isSome = true := by rfl) : BJ K X Γ (tSeq (tAsg te (gName i)) u) (lt e f) n b c := fun g σ H D hA hm =>
  he g σ [] H _ hA fun v H' ⟨S, h'⟩ => h e g _ H' D ⟨S, h'.set (by
    obtain ⟨x, hx⟩ := Option.isSome_iff_exists.mp hi
    exact (List.getElem?_eq_some_iff.mp hx).1) (hn e) (fun x hx => (by cases hx))⟩ hm
theorem At.set1 {g : Gh} {σ : St} {H : Hp} {v : V} {t : Tm} (h : At K g Γ σ [(v, t)] H) (hn : ∀ j, t ≠ .als j) (hi : Γ[i]?.isSome = true) : At K g (Γ.set i (some t)) (σ.set i (some v)) [] H := by
  obtain ⟨S, h⟩ := h
  obtain ⟨x, hx⟩ := Option.isSome_iff_exists.mp hi
  exact ⟨S, h.set (List.getElem?_eq_some_iff.mp hx).1 hn (fun x hx => (by cases hx))⟩
theorem bj_if {cc : Bool} (hc : EVB K Γ tc cc) (h1 : BJ K X Γ t m1 n b c) (h2 : BJ K X Γ u m2 n b c) : BJ K X Γ (tIfS tc t u) (if cc then m1 else m2) n b c := fun g σ H D hA hm =>
  hc g σ [] H _ hA fun H' h' => by
    cases cc with
    | true => exact h1 g σ H' D h' hm
    | false => exact h2 g σ H' D h' hm
/-- an if whose first branch leaves -/
theorem bj_ifL {w : TS} {cc : Bool} (hc : EVB K Γ tc cc) (h1 : BJ K X Γ (tSeq t w) m1 n b c) (h2 : BJ K X Γ (tSeq u w) m2 n b c) : BJ K X Γ (tSeq (tIfS tc t u) w) (if cc then m1 else m2) n b c := fun g σ H D hA hm =>
  hc g σ [] H _ hA fun H' h' => by
    cases cc with
    | true => exact h1 g σ H' D h' hm
    | false => exact h2 g σ H' D h' hm
theorem bj_weak (l : Le Γ' Γ) (h : BJ K X Γ' t m n b c) : BJ K X Γ t m n b c := fun g σ H D hA hm => h g σ H D (hA.weak l) hm
theorem bj_drop (he : EV K Γ te p') (h : BJ K X Γ u m n b c) : BJ K X Γ (tSeq (tDrop te) u) m n b c := fun g σ H D hA hm =>
  he g σ [] H _ hA fun v H' h' => h g σ H' D h'.pop hm
theorem bj_let {f : β → O ρ lam α} {e : β} (h : BJ K X Γ u (f e) n b c) : BJ K X Γ u (lt e f) n b c := h

/-! ### methods of own lists -/
def appR {α : Type} (xs : List α) (x : α) : R (List α) := gd (decide (xs.length < 1000000)) (xs ++ [x])
def popR {α : Type} (xs : List α) : R (α × List α) := match xs[xs.length - 1]? with
  | some y => .nx (y, xs.dropLast)
  | none => .stuck
def setR {α : Type} (xs : List α) (i : Int) (x : α) : R (List α) := match ixN xs.length i with
  | some j => .nx (xs.set j x)
  | none => .stuck
theorem AtS.tyL {g : Gh} {S H : Hp} {σ : St} {τ : List (V × Tm)} {v : V} {t : Tm} {ps : List VP} (h : AtS K g S Γ σ τ H) (hm : (v, t) ∈ τ) (hl : IsL Γ t ps) : tyV K "list" v H := by
  obtain ⟨a, vs, rfl, h2, _⟩ := h.isL hm hl
  exact .inl ⟨rfl, vs, h2⟩
/-- behind a write, the alias on the stack goes -/
theorem AtS.wr {g : Gh} {S H : Hp} {σ : St} {τ : List (V × Tm)} {oa : Option Addr} {c c' : Cell} {o' : HO} {v : V} (h : AtS K g S Γ σ τ H) (hm : (v, .als i) ∈ τ) (e : Γ[i]? = some (some (.own oa c))) (k : CellOk K S c' o') :
    ∃ a o, v = .ref a ∧ H a = some o ∧ CellOk K S c o ∧ AtS K g S (Γ.set i (some (.own oa c'))) σ τ (upd H a o') := by
  obtain ⟨a, o, e1, e2, e3, e4⟩ := h.write e k
  have q : σ[i]? = some (some v) := h.all _ (List.mem_append_right _ hm)
  rw [e1] at q
  exact ⟨a, o, by simpa using q.symm, e2, e3, e4⟩
/-- xs.append(x): the item on top, the alias below it -/
theorem f_app {g : Gh} {H : Hp} {σ : St} {τ : List (V × Tm)} {e : α → VP} {xs : List α} {a : α} {x y : V} {oa : Option Addr} {Q : VK} {E : Er → Prop} (hg : Γ[i]? = some (some (.own oa (.lst (xs.map e))))) (hA : At K g Γ σ ((y, .dat (e a)) :: (x, .als i) :: τ) H)
    (hm : OutR (appR xs a) (fun ys => ∀ H', At K g (Γ.set i (some (.own oa (.lst (ys.map e))))) σ τ H' → Q .non H') E) : rAppend x [y] H Q := by
  obtain ⟨S, h⟩ := hA
  obtain ⟨hc, k⟩ := hm.gd
  obtain ⟨a', vs, rfl, h2, h3⟩ := h.isO (List.mem_cons_of_mem _ List.mem_cons_self) (.als hg)
  have d : Hds K S ((xs ++ [a]).map e) (vs ++ [y]) := by
    rw [List.map_append]
    exact h3.append (.cons h.top .nil)
  obtain ⟨a2, o, e1, _, _, e4⟩ := h.wr (v := .ref a') (List.mem_cons_of_mem _ List.mem_cons_self) hg (c' := .lst ((xs ++ [a]).map e)) (o' := .lst (vs ++ [y])) ⟨_, rfl, d⟩
  cases e1
  refine ⟨a', vs, y, rfl, rfl, h2, ?_, k _ ⟨S, e4.pop.pop⟩⟩
  rw [h3.len, List.length_map]
  exact lt_line (of_decide_eq_true hc)
theorem bj_app {f : List β → O ρ lam α} {e : β → VP} {xs : List β} {a : β} {oa : Option Addr} (hg : Γ[i]? = some (some (.own oa (.lst (xs.map e))))) (he : EV K Γ te (.dat (e a)))
    (h : ∀ ys, BJ K X (Γ.set i (some (.own oa (.lst (ys.map e))))) u (f ys) n b c) : BJ K X Γ (tSeq (tDrop (tBM K "list" rAppend (tVar i) (tCons te tNil))) u) (bindR (appR xs a) f) n b c := fun g σ H D hA hm =>
  x_drop <| x_bm1 <| ev_own hg g σ [] H _ hA fun x H1 ⟨S, h1⟩ => ⟨h1.tyL List.mem_cons_self (.als hg), he g σ _ H1 _ ⟨S, h1⟩ fun y H2 h2 =>
    f_app hg h2 (hm.bindR.imp (fun ys q H3 h3 => h ys g σ H3 D h3 q) fun _ q => q)⟩
/-- xs.pop() -/
theorem f_pop {g : Gh} {H : Hp} {σ : St} {τ : List (V × Tm)} {e : α → VP} {xs : List α} {x : V} {oa : Option Addr} {Q : VK} {E : Er → Prop} (hg : Γ[i]? = some (some (.own oa (.lst (xs.map e))))) (hA : At K g Γ σ ((x, .als i) :: τ) H)
    (hm : OutR (popR xs) (fun r => ∀ v H', At K g (Γ.set i (some (.own oa (.lst (r.2.map e))))) σ ((v, .dat (e r.1)) :: τ) H' → Q v H') E) : rPop x [] H Q := by
  obtain ⟨S, h⟩ := hA
  unfold popR at hm
  cases e0 : xs[xs.length - 1]? with
  | none => rw [e0] at hm; exact hm.elim
  | some y =>
    rw [e0] at hm
    obtain ⟨a', vs, rfl, h2, h3⟩ := h.isO List.mem_cons_self (.als hg)
    have e1 : (xs.map e)[xs.length - 1]? = some (e y) := by rw [List.getElem?_map, e0]; rfl
    obtain ⟨w, w1, w2⟩ := h3.get e1
    have d : Hds K S (xs.dropLast.map e) vs.dropLast := by
      rw [List.map_dropLast]
      exact h3.dropLast
    obtain ⟨a2, o, e2, _, _, e4⟩ := h.wr (v := .ref a') List.mem_cons_self hg (c' := .lst (xs.dropLast.map e)) (o' := .lst vs.dropLast) ⟨_, rfl, d⟩
    cases e2
    refine ⟨a', vs, w, rfl, rfl, h2, ?_, hm w _ ⟨S, e4.pop.push w2⟩⟩
    rw [h3.len, List.length_map]
    exact w1
theorem x_pop {σ : St} {H : Hp} {Q : VK} {g : Gh} {τ : List (V × Tm)} {e : α → VP} {xs : List α} {oa : Option Addr} {E : Er → Prop} (hg : Γ[i]? = some (some (.own oa (.lst (xs.map e))))) (hA : At K g Γ σ τ H)
    (hm : OutR (popR xs) (fun r => ∀ v H', At K g (Γ.set i (some (.own oa (.lst (r.2.map e))))) σ ((v, .dat (e r.1)) :: τ) H' → Q v H') E) : tBM0 K "list" rPop (tVar i) σ H Q :=
  ev_own hg g σ τ H _ hA fun x H1 ⟨S, h1⟩ => ⟨h1.tyL List.mem_cons_self (.als hg), f_pop hg ⟨S, h1⟩ hm⟩
/-- xs.reverse() -/
theorem bj_rev {f : List β → O ρ lam α} {e : β → VP} {xs : List β} {oa : Option Addr} (hg : Γ[i]? = some (some (.own oa (.lst (xs.map e)))))
    (h : ∀ ys, BJ K X (Γ.set i (some (.own oa (.lst (ys.map e))))) u (f ys) n b c) : BJ K X Γ (tSeq (tDrop (tBM0 K "list" rReverse (tVar i))) u) (lt xs.reverse f) n b c := fun g σ H D hA hm =>
  x_drop <| x_bm0 <| ev_own hg g σ [] H _ hA fun x H1 ⟨S, h1⟩ => ⟨h1.tyL List.mem_cons_self (.als hg), by
    obtain ⟨a', vs, rfl, h2, h3⟩ := h1.isO List.mem_cons_self (.als hg)
    have d : Hds K S (xs.reverse.map e) vs.reverse := by
      rw [List.map_reverse]
      exact h3.rev
    obtain ⟨a2, o, e2, _, _, e4⟩ := h1.wr (v := .ref a') List.mem_cons_self hg (c' := .lst (xs.reverse.map e)) (o' := .lst vs.reverse) ⟨_, rfl, d⟩
    cases e2
    exact ⟨a', vs, rfl, rfl, h2, h _ g σ _ D ⟨S, e4.pop⟩ hm⟩⟩
/-- xs[j] = x: the value below the alias, the place on top -/
theorem f_set {g : Gh} {H : Hp} {σ : St} {τ : List (V × Tm)} {e : α → VP} {xs : List α} {j : Int} {a : α} {x y z : V} {oa : Option Addr} {Q : Hp → Prop} {E : Er → Prop} (hg : Γ[i]? = some (some (.own oa (.lst (xs.map e))))) (hA : At K g Γ σ ((y, .dat (eI j)) :: (x, .als i) :: (z, .dat (e a)) :: τ) H)
    (hm : OutR (setR xs j a) (fun ys => ∀ H', At K g (Γ.set i (some (.own oa (.lst (ys.map e))))) σ τ H' → Q H') E) : rSetL x y z H Q := by
  obtain ⟨S, h⟩ := hA
  unfold setR at hm
  cases e0 : ixN xs.length j with
  | none => rw [e0] at hm; exact hm.elim
  | some k =>
    rw [e0] at hm
    obtain ⟨a', vs, rfl, h2, h3⟩ := h.isO (List.mem_cons_of_mem _ List.mem_cons_self) (.als hg)
    have d : Hds K S ((xs.set k a).map e) (vs.set k z) := by
      rw [List.map_set]
      exact h3.set h.pop.pop.top k
    obtain ⟨a2, o, e2, _, _, e4⟩ := h.wr (v := .ref a') (List.mem_cons_of_mem _ List.mem_cons_self) hg (c' := .lst ((xs.set k a).map e)) (o' := .lst (vs.set k z)) ⟨_, rfl, d⟩
    cases e2
    refine ⟨a', vs, j, k, rfl, h.top.i, h2, ?_, hm _ ⟨S, e4.pop.pop.pop⟩⟩
    rw [h3.len, List.length_map]
    exact e0
/-- xs[j] = e with plain parts -/
theorem bj_set {f : List β → O ρ lam α} {e : β → VP} {xs : List β} {a : β} {j : Int} {oa : Option Addr} (hg : Γ[i]? = some (some (.own oa (.lst (xs.map e))))) (he : EV K Γ te (.dat (e a))) (hj : EV K Γ tb (.dat (eI j)))
    (h : ∀ ys, BJ K X (Γ.set i (some (.own oa (.lst (ys.map e))))) u (f ys) n b c) : BJ K X Γ (tSeq (tAsg te (gSub (tVar i) tb rSetL)) u) (bindR (setR xs j a) f) n b c := fun g σ H D hA hm =>
  he g σ [] H _ hA fun z H1 h1 => ev_own hg g σ _ H1 _ h1 fun x H2 h2 => hj g σ _ H2 _ h2 fun y H3 h3 =>
    f_set hg h3 (hm.bindR.imp (fun ys q H4 h4 => h ys g σ H4 D h4 q) fun _ q => q)

end

/-! ### targets -/
def setS : St → List Nat → List V → St
  | σ, [], _ => σ
  | σ, _ :: _, [] => σ
  | σ, j :: js, v :: vs => setS (σ.set j (some v)) js vs
def setG : List (Option Tm) → List Nat → List VP → List (Option Tm)
  | G, [], _ => G
  | G, _ :: _, [] => G
  | G, j :: js, p :: ps => setG (G.set j (some (.dat p))) js ps
theorem setS_app : ∀ {js ks : List Nat} {vs ws : List V} {σ : St}, vs.length = js.length → setS σ (js ++ ks) (vs ++ ws) = setS (setS σ js vs) ks ws
  | [], _, [], _, _, _ => rfl
  | [], _, _ :: _, _, _, h => by simp at h
  | _ :: _, _, [], _, _, h => by simp at h
  | j :: js, ks, v :: vs, ws, σ, h => setS_app (js := js) (vs := vs) (σ := σ.set j (some v)) (by simpa using h)
theorem setG_app : ∀ {js ks : List Nat} {ps qs : List VP} {G : List (Option Tm)}, ps.length = js.length → setG G (js ++ ks) (ps ++ qs) = setG (setG G js ps) ks qs
  | [], _, [], _, _, _ => rfl
  | [], _, _ :: _, _, _, h => by simp at h
  | _ :: _, _, [], _, _, h => by simp at h
  | j :: js, ks, v :: vs, ws, G, h => setG_app (js := js) (ps := vs) (G := G.set j (some (.dat v))) (by simpa using h)
theorem setG_len : ∀ {js : List Nat} {ps : List VP} {G : List (Option Tm)}, (setG G js ps).length = G.length
  | [], _, _ => rfl
  | _ :: _, [], _ => rfl
  | j :: js, p :: ps, G => by
    show (setG (G.set j (some (.dat p))) js ps).length = _
    rw [setG_len, List.length_set]
/-- a target takes the value on top: the slots js take what the ps tell -/
def TJ (K : PySem.W.Frag) (tg : TG) (p : VP) (js : List Nat) (ps : List VP) : Prop := ps.length = js.length ∧ ∀ g Γ σ τ H x (Q : St → Hp → Prop), (∀ j ∈ js, j < Γ.length) → (∀ y ∈ τ, ∀ k, y.2 = Tm.als k → k ∉ js) → At K g Γ σ ((x, .dat p) :: τ) H →
  (∀ vs H', vs.length = js.length → At K g (setG Γ js ps) (setS σ js vs) τ H' → Q (setS σ js vs) H') → tg x σ H Q
def TJs (K : PySem.W.Frag) (tg : TGs) (qs : List VP) (js : List Nat) (ps : List VP) : Prop := ps.length = js.length ∧ ∀ g Γ σ τ H xs (Q : St → Hp → Prop), (∀ j ∈ js, j < Γ.length) → (∀ y ∈ τ, ∀ k, y.2 = Tm.als k → k ∉ js) → xs.length = qs.length → At K g Γ σ (xs.zip (qs.map Tm.dat) ++ τ) H →
  (∀ vs H', vs.length = js.length → At K g (setG Γ js ps) (setS σ js vs) τ H' → Q (setS σ js vs) H') → tg xs σ H Q
section
variable {K : PySem.W.Frag} {tg : TG} {tgs : TGs} {p : VP} {ps qs rs : List VP} {js ks : List Nat} {i : Nat}
theorem tj_name : TJ K (gName i) p [i] [p] := ⟨rfl, fun g Γ σ τ H x Q hi hτ ⟨S, hA⟩ k =>
  k [x] H rfl ⟨S, hA.set (hi i List.mem_cons_self) (fun j z => by cases z) fun y hy k e => (fun z => hτ y hy k e (by rw [z]; exact List.mem_cons_self))⟩⟩
theorem tjs_nil : TJs K gNil [] [] [] := ⟨rfl, fun g Γ σ τ H xs Q hi hτ hl hA k => by
  cases xs with
  | nil => exact ⟨rfl, k [] H rfl hA⟩
  | cons _ _ => simp at hl⟩
theorem tjs_cons (h1 : TJ K tg p js ps) (h2 : TJs K tgs qs ks rs) : TJs K (gCons tg tgs) (p :: qs) (js ++ ks) (ps ++ rs) := ⟨by rw [List.length_append, List.length_append, h1.1, h2.1], fun g Γ σ τ H xs Q hi hτ hl hA k => by
  cases xs with
  | nil => simp at hl
  | cons x xs =>
    refine ⟨x, xs, rfl, h1.2 g Γ σ (xs.zip (qs.map Tm.dat) ++ τ) H x _ (fun j hj => hi j (List.mem_append_left _ hj)) (fun y hy k e => ?_) hA fun vs H1 e1 hA1 => ?_⟩
    · rcases List.mem_append.mp hy with hy | hy
      · obtain ⟨q, _, e2⟩ := List.mem_map.mp (List.of_mem_zip (show (y.1, y.2) ∈ _ from hy)).2
        rw [e] at e2; cases e2
      · exact fun z => hτ y hy k e (List.mem_append_left _ z)
    · refine h2.2 g _ _ τ H1 xs _ (fun j hj => by rw [setG_len]; exact hi j (List.mem_append_right _ hj)) (fun y hy k e z => hτ y hy k e (List.mem_append_right _ z)) (by simpa using hl) hA1 fun ws H2 e2 hA2 => ?_
      have q := k (vs ++ ws) H2 (by rw [List.length_append, List.length_append, e1, e2])
      rw [setS_app e1, setG_app h1.1] at q
      exact q hA2⟩
theorem AtS.pushes {g : Gh} {S H : Hp} {Γ : List (Option Tm)} {σ : St} {τ : List (V × Tm)} : ∀ {qs : List VP} {xs : List V}, Hds K S qs xs → AtS K g S Γ σ τ H → AtS K g S Γ σ (xs.zip (qs.map Tm.dat) ++ τ) H
  | _, _, .nil, h => h
  | _, _, .cons r t, h => (AtS.pushes t h).push r
theorem tj_tup {n : Nat} (h : TJs K tgs qs js ps) (hn : qs.length = n) : TJ K (gTup K n tgs) (rT qs) js ps := ⟨h.1, fun g Γ σ τ H x Q hi hτ ⟨S, hA⟩ k => by
  obtain ⟨a, vs, rfl, h2, h3⟩ := hA.isT List.mem_cons_self
  exact ⟨a, vs, rfl, h2, by rw [h3.len, hn], h.2 g Γ σ τ H vs Q hi hτ h3.len ⟨S, hA.pop.pushes h3⟩ k⟩⟩
end
end Gv

set_option Elab.async false
set_option linter.all false
set_option maxRecDepth 100000
set_option maxHeartbeats 1000000
/-! Gv: loops, comprehensions, defs -/
namespace Gv
open PySem L2

/-! ### what a loop walks -/
/-- wi walks the items that m tells -/
def ITM (K : PySem.W.Frag) (Γ : List (Option Tm)) (wi : TI) {β : Type} (m : R (List β)) (e : β → VP) : Prop :=
  ∀ (g : Gh) (σ : St) (τ : List (V × Tm)) (H : Hp) (Rk : It → Hp → Prop) (E : Er → Prop), At K g Γ σ τ H →
    OutR m (fun xs => ∀ (J : It) (Gd : Hp → Prop) (Y : Nat → Hp → V → Hp → Prop) (S1 H' : Hp), Walk J xs.length Gd Y → Same g.S0 S1 → (∀ b, g.F b ≠ none → g.S0 b = none → S1 b = none) → At K ⟨S1, g.F⟩ Γ σ τ H' →
      (∀ S2 H2, Base ⟨S1, g.F⟩ S2 H2 → Gd H2) →
      (∀ (i : Nat) (b : β) (x : V) (H1 H2 : Hp) (Γ' : List (Option Tm)) (σ' : St) (τ' : List (V × Tm)), xs[i]? = some b → Y i H1 x H2 → At K ⟨S1, g.F⟩ Γ' σ' τ' H1 → At K ⟨S1, g.F⟩ Γ' σ' ((x, .dat (e b)) :: τ') H2) → Rk J H') E → wi σ H Rk
section
variable {K : PySem.W.Frag} {Γ : List (Option Tm)} {wi : TI} {te ta tb : TE} {β : Type} {e : β → VP}
theorem Base.reS {g : Gh} {S S2 H2 : Hp} (B : Base ⟨S, g.F⟩ S2 H2) : Same S H2 := fun b o h => B.sh b o (B.s0 b o h)
theorem it_list (xs : List β) (e : β → VP) (he : EV K Γ te (.dat (eL e xs))) : ITM K Γ (iList K te) (.nx xs) e := fun g σ τ H Rk E hA hm =>
  he g σ τ H _ hA fun v H' ⟨S, h⟩ => by
    obtain ⟨a, vs, rfl, h2, h3⟩ := Hd.l h.top
    have hl : vs.length = xs.length := by rw [h3.len, List.length_map]
    refine ⟨a, rfl, ⟨vs, h.base.sh.seq h2⟩, hm (Itl K a) (fun H => SqL K H a vs) (YAt vs) S H' (by rw [← hl]; exact walk_list) h.base.s0 h.base.fs ⟨S, h.pop.reS⟩ (fun S2 H2 B => B.reS.seq h2) fun i b x H1 H2 Γ' σ' τ' hb hy ⟨S2, hA2⟩ => ?_⟩
    obtain ⟨rfl, hx⟩ := hy
    obtain ⟨w, w1, w2⟩ := h3.get (show (xs.map e)[i]? = some (e b) by rw [List.getElem?_map, hb]; rfl)
    rw [hx] at w1
    cases w1
    exact ⟨S2, hA2.push (w2.mono hA2.base.s0)⟩
theorem it_tup (xs : List β) (e : β → VP) (he : EV K Γ te (.dat (eT e xs))) : ITM K Γ (iTup K te) (.nx xs) e := fun g σ τ H Rk E hA hm =>
  he g σ τ H _ hA fun v H' ⟨S, h⟩ => by
    obtain ⟨a, vs, rfl, h2, h3⟩ := Hd.t h.top
    have hl : vs.length = xs.length := by rw [h3.len, List.length_map]
    refine ⟨a, rfl, ⟨vs, same_t h.base.sh h2⟩, hm (Itt K a) (fun H => SqT K H a vs) (YAt vs) S H' (by rw [← hl]; exact walk_tup) h.base.s0 h.base.fs ⟨S, h.pop.reS⟩ (fun S2 H2 B => same_t B.reS h2) fun i b x H1 H2 Γ' σ' τ' hb hy ⟨S2, hA2⟩ => ?_⟩
    obtain ⟨rfl, hx⟩ := hy
    obtain ⟨w, w1, w2⟩ := h3.get (show (xs.map e)[i]? = some (e b) by rw [List.getElem?_map, hb]; rfl)
    rw [hx] at w1
    cases w1
    exact ⟨S2, hA2.push (w2.mono hA2.base.s0)⟩
/-- an own list: it stands still while it is walked -/
theorem At.frzS {g : Gh} {σ : St} {H : Hp} {i : Nat} {oa : Option Addr} {ps : List VP} (h : At K g Γ σ [] H) (hg : Γ[i]? = some (some (.own oa (.lst ps)))) : At K g (Γ.set i (some (.dat (rL ps)))) σ [] H := by
  obtain ⟨S, h⟩ := h
  obtain ⟨a, e1, ow, h0⟩ := h.at0.take hg
  have h1 : At K g (Γ.set i none) σ [(.ref a, .own oa (.lst ps))] H := by
    refine ⟨S, h0.base, h0.len, h0.all, h0.ns, fun x hx k e => ?_, h0.nd⟩
    have : x = (V.ref a, Tm.own oa (.lst ps)) := by simpa using hx
    subst this
    cases e
  obtain ⟨S2, h2⟩ := h1.frz
  have hi : i < Γ.length := (List.getElem?_eq_some_iff.mp hg).1
  have h3 := h2.at0.put (i := i) (by rw [List.length_set]; exact hi) e1 (fun j z => by cases z) (List.getElem?_set_self hi)
  rw [List.set_set] at h3
  exact ⟨S2, h3.base, h3.len, h3.all, h3.ns, (fun x hx => nomatch hx), h3.nd⟩
theorem bj_frz {ρ lam α : Type} {X : Fx ρ} {u : TS} {m : O ρ lam α} {n : α → List (Option Tm)} {b c : lam → List (Option Tm)} {i : Nat} {oa : Option Addr} {ps : List VP} (hg : Γ[i]? = some (some (.own oa (.lst ps)))) (h : BJ K X (Γ.set i (some (.dat (rL ps)))) u m n b c) : BJ K X Γ u m n b c :=
  fun g σ H D hA hm => h g σ H D (hA.frzS hg) hm
/-- the place of an own list gets a name -/
theorem bj_pin {ρ lam α : Type} {X : Fx ρ} {u : TS} {m : O ρ lam α} {n : α → List (Option Tm)} {b c : lam → List (Option Tm)} {i : Nat} {oa : Option Addr} {cl : Cell} (hg : Γ[i]? = some (some (.own oa cl))) (h : ∀ a, BJ K X (Γ.set i (some (.own (some a) cl))) u m n b c) : BJ K X Γ u m n b c :=
  fun g σ H D ⟨S, hA⟩ hm => by
    obtain ⟨a, e1, ow, h0⟩ := hA.at0.take hg
    have hi : i < Γ.length := (List.getElem?_eq_some_iff.mp hg).1
    have h1 : At0 K g S (Γ.set i none) σ [(.ref a, .own (some a) cl)] H := ⟨h0.base, h0.len, fun x hx => by
      rcases List.mem_append.mp hx with hx | hx
      · exact h0.all x (List.mem_append_left _ hx)
      · have : x = (V.ref a, Tm.own (some a) cl) := by simpa using hx
        subst this
        obtain ⟨a', o, e, _, k⟩ := ow
        cases e
        exact ⟨a, o, rfl, fun b z => (Option.some.inj z).symm, k⟩, h0.ns, by
      have := h0.nd
      rw [addrs_append] at this ⊢
      exact this⟩
    have h3 := h1.put (i := i) (by rw [List.length_set]; exact hi) e1 (fun j z => by cases z) (List.getElem?_set_self hi)
    rw [List.set_set] at h3
    exact h a g σ H D ⟨S, h3.base, h3.len, h3.all, h3.ns, fun x hx => (by cases hx), h3.nd⟩ hm
/-- range(a, b) as a list -/
def rangeL (a b : Int) : List Int := (List.range (b - a).toNat).map fun i => a + (i : Nat)
theorem rangeL_len (a b : Int) : (rangeL a b).length = (b - a).toNat := by unfold rangeL; rw [List.length_map, List.length_range]
theorem rangeL_get {a b : Int} {i : Nat} {x : Int} (h : (rangeL a b)[i]? = some x) : x = a + (i : Nat) := by
  unfold rangeL at h
  rw [List.getElem?_map] at h
  cases e : (List.range (b - a).toNat)[i]? with
  | none => rw [e] at h; cases h
  | some j =>
    rw [e] at h
    obtain ⟨hj, ej⟩ := List.getElem?_eq_some_iff.mp e
    rw [List.getElem_range] at ej
    subst ej
    exact (Option.some.inj h).symm
@[irreducible] def rngR (a b : Int) : R (List Int) := gd (decide (-1000000000 ≤ a) && decide (a ≤ 1000000000) && decide (-1000000000 ≤ b) && decide (b ≤ 1000000000)) (rangeL a b)
theorem rngR_eq (a b : Int) : rngR a b = gd (decide (-1000000000 ≤ a) && decide (a ≤ 1000000000) && decide (-1000000000 ≤ b) && decide (b ≤ 1000000000)) (rangeL a b) := by unfold rngR; rfl
theorem rngR_gd {a b : Int} {N : List Int → Prop} {E : Er → Prop} (h : OutR (rngR a b) N E) : (decide (-1000000000 ≤ a) && decide (a ≤ 1000000000) && decide (-1000000000 ≤ b) && decide (b ≤ 1000000000)) = true ∧ N (rangeL a b) := by
  rw [rngR_eq] at h
  exact h.gd
theorem it_rng1 {b : Int} (he : EV K Γ tb (.dat (eI b))) : ITM K Γ (iRng1 (tCons tb tNil)) (rngR 0 b) eI := fun g σ τ H Rk E hA hm =>
  he g σ τ H _ hA fun v H' ⟨S, h⟩ => by
    obtain ⟨hc, k⟩ := rngR_gd hm
    simp only [Bool.and_eq_true, decide_eq_true_eq] at hc
    refine ⟨b, by rw [show v = V.int b from Hd.i h.top], by omega, by omega, k (Itr 0 b.toNat) (fun _ => True) (YFn fun i => .int (0 + i)) S H' (by rw [rangeL_len, Int.sub_zero]; exact walk_range) h.base.s0 h.base.fs ⟨S, h.pop.reS⟩ (fun _ _ _ => True.intro) fun i x v H1 H2 Γ' σ' τ' hx hy hA2 => ?_⟩
    obtain ⟨rfl, rfl⟩ := hy
    exact hA2.scal fun _ => by rw [rangeL_get hx]; rfl
theorem it_rng2 {a b : Int} (h1 : EV K Γ ta (.dat (eI a))) (h2 : EV K Γ tb (.dat (eI b))) : ITM K Γ (iRng2 (tCons ta (tCons tb tNil))) (rngR a b) eI := fun g σ τ H Rk E hA hm =>
  h1 g σ τ H _ hA fun v H1 hA1 => h2 g σ _ H1 _ hA1 fun w H' ⟨S, h⟩ => by
    obtain ⟨hc, k⟩ := rngR_gd hm
    simp only [Bool.and_eq_true, decide_eq_true_eq] at hc
    refine ⟨a, b, by rw [show w = V.int b from Hd.i h.top, show v = V.int a from Hd.i h.pop.top], by omega, k (Itr a (b - a).toNat) (fun _ => True) (YFn fun i => .int (a + i)) S H' (by rw [rangeL_len]; exact walk_range) h.base.s0 h.base.fs ⟨S, h.pop.pop.reS⟩ (fun _ _ _ => True.intro) fun i x v H1 H2 Γ' σ' τ' hx hy hA2 => ?_⟩
    obtain ⟨rfl, rfl⟩ := hy
    exact hA2.scal fun _ => by rw [rangeL_get hx]; rfl
end

/-! ### for -/
section
variable {K : PySem.W.Frag} {ρ lam α β sT : Type} {X : Fx ρ} {Γ : List (Option Tm)} {n : α → List (Option Tm)} {b c : lam → List (Option Tm)} {t u tb : TS} {te : TE} {tc : TT} {wi : TI} {tg : TG} {e : β → VP} {js : List Nat} {ps : β → List VP}
theorem forO_out {f : sT → β → O ρ sT sT} {x : β} {xs : List β} {s0 : sT} {N : sT → Prop} {T : ρ → Prop} {B C : lam → Prop} {E : Er → Prop} (h : Out (forO f (x :: xs) s0 : O ρ lam sT) N T B C E) :
    Out (f s0 x) (fun s' => Out (forO f xs s' : O ρ lam sT) N T B C E) T (fun s' => N s') (fun s' => Out (forO f xs s' : O ρ lam sT) N T B C E) E := by
  unfold forO at h
  cases e : f s0 x <;> rw [e] at h <;> exact h
theorem ErP.unS {EC : Str → Addr} {g : Gh} {S1 : Hp} {Gw : List (Option Tm)} {x : Er} {EW : St → XK} (h : ErP K EC g Gw x EW) (e : Same g.S0 S1) (f : ∀ b, g.F b ≠ none → g.S0 b = none → S1 b = none) : ErP K EC ⟨S1, g.F⟩ Gw x EW :=
  fun σ' H' S' d hA => h σ' H' S' d (hA.unS e f)
theorem At.unS {g : Gh} {S1 H : Hp} {σ : St} {τ : List (V × Tm)} (h : At K ⟨S1, g.F⟩ Γ σ τ H) (e : Same g.S0 S1) (f : ∀ b, g.F b ≠ none → g.S0 b = none → S1 b = none) : At K g Γ σ τ H := by
  obtain ⟨S, h⟩ := h
  exact ⟨S, h.unS e f⟩
theorem bj_for {m : R (List β)} {f : sT → β → O ρ sT sT} {s0 : sT} {k : sT → O ρ lam α} (Gl : sT → List (Option Tm)) (hi : ITM K Γ wi m e) (ht : ∀ b, TJ K tg (e b) js (ps b)) (hj : ∀ s, ∀ j ∈ js, j < (Gl s).length) (h0 : Le (Gl s0) Γ)
    (hb : ∀ s b, BJ K X (setG (Gl s) js (ps b)) tb (f s b) Gl Gl Gl) (hr : ∀ s, BJ K X (Gl s) u (k s) n b c) : BJ K X Γ (tSeq (tFor wi tg tb) u) (bindR m fun xs => (forO f xs s0).bind k) n b c := fun g σ H D hA hm => by
  show wi σ H _
  refine hi g σ [] H _ (ErW K g X) hA (hm.bindR.imp (fun xs q J Gd Y S1 H' w es ef hA' hG hY => ?_) fun _ q => q)
  have q2 := q.bind
  refine for_it w (fun i σ H => ∃ s, At K ⟨S1, g.F⟩ (Gl s) σ [] H ∧ Out (forO f (xs.drop i) s : O ρ lam sT) (fun s' => ∀ σ' H', At K ⟨S1, g.F⟩ (Gl s') σ' [] H' → u D σ' H') (RtW K ⟨S1, g.F⟩ X D.rt) (fun l => NxW K g b D.bk l) (fun l => NxW K g c D.ct l) (ErW K ⟨S1, g.F⟩ X))
    ⟨s0, hA'.weak h0, ?_⟩ (fun i σ H _ ⟨s, ⟨S2, h2⟩, _⟩ => hG S2 H h2.base) ?_ ?_
  · rw [List.drop_zero]
    refine q2.imp (fun s' q3 σ' H' h' => hr s' g σ' H' D (h'.unS es ef) q3) (fun r q3 v H' σ' h' => q3 v H' σ' (h'.unS es ef)) (fun _ q3 => q3) (fun _ q3 => q3) (fun x q3 => q3.unS es ef)
  · rintro i x σ H H' hi ⟨s, hA2, q3⟩ hy
    have hx : xs[i]? = some xs[i] := List.getElem?_eq_getElem hi
    rw [List.drop_eq_getElem_cons hi] at q3
    have q4 := forO_out q3
    refine (ht xs[i]).2 ⟨S1, g.F⟩ (Gl s) σ [] H' x _ (hj s) (fun y hy => (by cases hy)) (hY i _ x H H' _ _ _ hx hy hA2) fun vs H2 _ hA3 => ?_
    exact hb s xs[i] ⟨S1, g.F⟩ _ H2 _ hA3 (q4.imp (fun s' q5 σ' H' h' => ⟨s', h', q5⟩) (fun _ q5 => q5) (fun s' q5 σ' H' h' => q5 σ' H' h') (fun s' q5 σ' H' h' => ⟨s', h', q5⟩) fun _ q5 => q5)
  · rintro σ H ⟨s, hA2, q3⟩
    rw [List.drop_length] at q3
    exact q3 σ H hA2
/-! ### while -/
theorem whileO_out {cn : sT → R (sT × Bool)} {f : sT → O ρ sT sT} {fu : Nat} {s0 : sT} {N : sT → Prop} {T : ρ → Prop} {B C : lam → Prop} {E : Er → Prop} (h : Out (whileO cn f (fu + 1) s0 : O ρ lam sT) N T B C E) :
    OutR (cn s0) (fun sb => (sb.2 = true → Out (f sb.1) (fun s' => Out (whileO cn f fu s' : O ρ lam sT) N T B C E) T (fun s' => N s') (fun s' => Out (whileO cn f fu s' : O ρ lam sT) N T B C E) E) ∧ (sb.2 = false → N sb.1)) E := by
  unfold whileO at h
  refine h.bindR.imp (fun sb q => ⟨fun hb => ?_, fun hb => ?_⟩) fun _ q => q
  · rw [if_pos hb] at q
    cases e : f sb.1 <;> rw [e] at q <;> exact q
  · rw [if_neg (by rw [hb]; exact Bool.false_ne_true)] at q
    exact q
theorem bj_while {cn : sT → R (sT × Bool)} {f : sT → O ρ sT sT} {fu : Nat} {s0 : sT} {k : sT → O ρ lam α} (Gl : sT → List (Option Tm)) (h0 : Le (Gl s0) Γ)
    (hc : ∀ s g σ H (Q : Bool → Hp → Prop), At K g (Gl s) σ [] H → OutR (cn s) (fun sb => ∀ H', At K g (Gl sb.1) σ [] H' → Q sb.2 H') (ErW K g X) → tc σ H Q)
    (hb : ∀ s, BJ K X (Gl s) tb (f s) Gl Gl Gl) (hr : ∀ s, BJ K X (Gl s) u (k s) n b c) : BJ K X Γ (tSeq (tWhile tc tb) u) ((whileO cn f fu s0).bind k) n b c := fun g σ H D hA hm => by
  have q2 := hm.bind
  show ∃ W : Nat → St → Hp → Prop, _
  refine ⟨fun m σ H => ∃ s, At K g (Gl s) σ [] H ∧ Out (whileO cn f m s : O ρ lam sT) (fun s' => ∀ σ' H', At K g (Gl s') σ' [] H' → u D σ' H') (RtW K g X D.rt) (fun l => NxW K g b D.bk l) (fun l => NxW K g c D.ct l) (ErW K g X),
    ⟨fu, s0, hA.weak h0, q2.imp (fun s' q3 σ' H' h' => hr s' g σ' H' D h' q3) (fun _ q => q) (fun _ q => q) (fun _ q => q) fun _ q => q⟩, ?_⟩
  rintro m σ H ⟨s, hA2, q3⟩
  cases m with
  | zero => exact q3.elim
  | succ m =>
    refine hc s g σ H _ hA2 ((whileO_out q3).imp (fun sb q4 H' h' => ?_) fun _ q => q)
    cases e : sb.2 with
    | true =>
      rw [if_pos rfl]
      refine ⟨fun σ' H' => ∃ s', At K g (Gl s') σ' [] H' ∧ Out (whileO cn f m s' : O ρ lam sT) (fun s' => ∀ σ' H', At K g (Gl s') σ' [] H' → u D σ' H') (RtW K g X D.rt) (fun l => NxW K g b D.bk l) (fun l => NxW K g c D.ct l) (ErW K g X), fun σ' H' z => ⟨m, Nat.lt_succ_self m, z⟩, ?_⟩
      exact hb sb.1 g σ H' _ h' ((q4.1 e).imp (fun s' q5 σ' H' h' => ⟨s', h', q5⟩) (fun _ q5 => q5) (fun s' q5 σ' H' h' => q5 σ' H' h') (fun s' q5 σ' H' h' => ⟨s', h', q5⟩) fun _ q5 => q5)
    | false =>
      rw [if_neg Bool.false_ne_true]
      exact q4.2 e σ H' h'
/-- a test that is plain -/
theorem cj_pure {Gl : sT → List (Option Tm)} {cc : sT → Bool} (h : ∀ s, EVB K (Gl s) tc (cc s)) : ∀ s g σ H (Q : Bool → Hp → Prop), At K g (Gl s) σ [] H → OutR (.nx (s, cc s) : R (sT × Bool)) (fun sb => ∀ H', At K g (Gl sb.1) σ [] H' → Q sb.2 H') (ErW K g X) → tc σ H Q :=
  fun s g σ H Q hA hm => h s g σ [] H Q hA fun H' h' => hm H' h'
end

/-! ### comprehensions -/
section
variable {K : PySem.W.Frag} {β γ sT : Type} {wi : TI} {tg : TG} {tt : TT} {te : TE} {e : β → VP} {js vs : List Nat} {ps : β → List VP} {enc : γ → VP}
/-- what an item gives -/
def LJ (K : PySem.W.Frag) (Gl : sT → List (Option Tm)) (js : List Nat) (ps : β → List VP) (enc : γ → VP) (tt : TT) (te : TE) (f : sT → β → R (sT × Option γ)) : Prop :=
  ∀ s b g σ τ H (Q : Option V → Hp → Prop), At K g (setG (Gl s) js (ps b)) σ τ H →
    OutR (f s b) (fun r => match r.2 with
      | none => ∀ H', At K g (setG (Gl r.1) js (ps b)) σ τ H' → Q none H'
      | some y => ∀ v H', At K g (setG (Gl r.1) js (ps b)) σ ((v, .dat (enc y)) :: τ) H' → Q (some v) H') (fun _ => False) →
    tt σ H fun b H3 => if b = true then te σ H3 fun y H4 => Q (some y) H4 else Q none H3
theorem lj_pure {Gl : sT → List (Option Tm)} {h : sT → β → γ} (he : ∀ s b, EV K (setG (Gl s) js (ps b)) te (.dat (enc (h s b)))) : LJ K Gl js ps enc tYes te (fun s b => .nx (s, some (h s b))) := fun s b g σ τ H Q hA hm => by
  show (if true = true then te σ H (fun y H4 => Q (some y) H4) else Q none H)
  rw [if_pos rfl]
  exact he s b g σ τ H _ hA fun v H' h' => hm v H' h'
theorem lj_pureIf {Gl : sT → List (Option Tm)} {cc : sT → β → Bool} {h : sT → β → γ} (hc : ∀ s b, EVB K (setG (Gl s) js (ps b)) tt (cc s b)) (he : ∀ s b, EV K (setG (Gl s) js (ps b)) te (.dat (enc (h s b)))) : LJ K Gl js ps enc tt te (fun s b => .nx (s, if cc s b then some (h s b) else none)) := fun s b g σ τ H Q hA hm => by
  refine hc s b g σ τ H _ hA fun H' h' => ?_
  dsimp only at hm
  cases e : cc s b with
  | true =>
    rw [if_pos rfl]
    rw [e] at hm
    exact he s b g σ τ H' _ h' fun v H2 h2 => hm v H2 h2
  | false =>
    rw [if_neg Bool.false_ne_true]
    rw [e] at hm
    exact hm H' h'
theorem wipe_get {σ : St} : ∀ {vs : List Nat} {i : Nat}, i ∉ vs → (wipe σ vs)[i]? = σ[i]?
  | [], _, _ => rfl
  | v :: vs, i, h => by
    unfold wipe
    rw [List.getElem?_set_ne (by intro z; exact h (by simp [z]))]
    exact wipe_get fun z => h (List.mem_cons_of_mem _ z)
theorem wipe_hit {σ : St} : ∀ {vs : List Nat} {i : Nat}, i ∈ vs → (wipe σ vs)[i]? = if i < σ.length then some none else none
  | v :: vs, i, h => by
    unfold wipe
    by_cases hv : v = i
    · subst hv
      by_cases hl : v < σ.length
      · rw [List.getElem?_set_self (by rw [wipe_length]; exact hl), if_pos hl]
      · rw [if_neg hl, List.getElem?_eq_none (by rw [List.length_set, wipe_length]; omega)]
    · rw [List.getElem?_set_ne hv]
      exact wipe_hit (by
        rcases List.mem_cons.mp h with h | h
        · exact absurd h.symm hv
        · exact h)
theorem setS_get : ∀ {js : List Nat} {ws : List V} {σ : St} {i : Nat}, i ∉ js → (setS σ js ws)[i]? = σ[i]?
  | [], _, _, _, _ => rfl
  | _ :: _, [], _, _, _ => rfl
  | j :: js, w :: ws, σ, i, h => by
    show (setS (σ.set j (some w)) js ws)[i]? = _
    rw [setS_get fun z => h (List.mem_cons_of_mem _ z), List.getElem?_set_ne (by intro z; exact h (by simp [z]))]
theorem setS_len : ∀ {js : List Nat} {ws : List V} {σ : St}, (setS σ js ws).length = σ.length
  | [], _, _ => rfl
  | _ :: _, [], _ => rfl
  | j :: js, w :: ws, σ => by
    show (setS (σ.set j (some w)) js ws).length = _
    rw [setS_len, List.length_set]
theorem wipe_set {σ : St} {js vs : List Nat} {ws : List V} (h : ∀ j ∈ js, j ∈ vs) : wipe (setS (wipe σ vs) js ws) vs = wipe σ vs := by
  apply List.ext_getElem?
  intro i
  by_cases hi : i ∈ vs
  · rw [wipe_hit hi, wipe_hit hi, setS_len, wipe_length]
  · rw [wipe_get hi, setS_get (fun z => hi (h i z)), wipe_get hi]
theorem setG_get : ∀ {js : List Nat} {qs : List VP} {G : List (Option Tm)} {i : Nat}, i ∉ js → (setG G js qs)[i]? = G[i]?
  | [], _, _, _, _ => rfl
  | _ :: _, [], _, _, _ => rfl
  | j :: js, w :: ws, σ, i, h => by
    show (setG (σ.set j (some (.dat w))) js ws)[i]? = _
    rw [setG_get fun z => h (List.mem_cons_of_mem _ z), List.getElem?_set_ne (by intro z; exact h (by simp [z]))]
theorem setG_comm {x : Option Tm} : ∀ {js : List Nat} {qs : List VP} {G : List (Option Tm)} {j : Nat}, j ∉ js → setG (G.set j x) js qs = (setG G js qs).set j x
  | [], _, _, _, _ => rfl
  | _ :: _, [], _, _, _ => rfl
  | i :: js, q :: qs, G, j, h => by
    show setG ((G.set j x).set i (some (.dat q))) js qs = (setG (G.set i (some (.dat q))) js qs).set j x
    rw [List.set_comm _ _ (by intro z; exact h (by simp [z])), setG_comm fun z => h (List.mem_cons_of_mem _ z)]
theorem forget {g : Gh} {S H : Hp} {σ : St} {τ : List (V × Tm)} : ∀ {js : List Nat} {qs : List VP} {G : List (Option Tm)}, js.Nodup → (∀ j ∈ js, G[j]? = some none) → AtS K g S (setG G js qs) σ τ H → AtS K g S G σ τ H
  | [], _, _, _, _, h => h
  | _ :: _, [], _, _, _, h => h
  | j :: js, q :: qs, G, nd, hn, h => by
    obtain ⟨n1, n2⟩ := List.nodup_cons.mp nd
    have h' : AtS K g S (setG (G.set j (some (.dat q))) js qs) σ τ H := h
    have hj := hn j List.mem_cons_self
    have hl := (List.getElem?_eq_some_iff.mp hj).1
    have h2 : AtS K g S ((setG (G.set j (some (.dat q))) js qs).set j none) σ τ H := h'.drop1 (p := q) (by rw [setG_get n1, List.getElem?_set_self hl])
    rw [setG_comm n1, List.set_set] at h2
    have e : (setG G js qs).set j none = setG G js qs := by
      apply List.ext_getElem?
      intro i
      by_cases hi : j = i
      · subst hi; rw [List.getElem?_set_self (by rw [setG_len]; exact hl), setG_get n1, hj]
      · rw [List.getElem?_set_ne hi]
    rw [e] at h2
    exact forget n2 (fun i hi => hn i (List.mem_cons_of_mem _ hi)) h2
theorem lcR_out {f : sT → β → R (sT × Option γ)} {x : β} {xs : List β} {s0 : sT} {acc : List γ} {N : sT × List γ → Prop} {E : Er → Prop} (h : OutR (lcR f (x :: xs) s0 acc) N E) :
    OutR (f s0 x) (fun r => match r.2 with
      | none => OutR (lcR f xs r.1 acc) N E
      | some y => acc.length < 1000000 ∧ OutR (lcR f xs r.1 (acc ++ [y])) N E) (fun _ => False) := by
  unfold lcR at h
  cases e : f s0 x with
  | nx r =>
    rw [e] at h
    obtain ⟨s1, o⟩ := r
    cases o with
    | none => exact h
    | some y =>
      dsimp only at h
      by_cases hl : acc.length < 1000000
      · rw [if_pos hl] at h; exact ⟨hl, h⟩
      · rw [if_neg hl] at h; exact h.elim
  | rt r => exact r.elim
  | bk r => exact r.elim
  | ct r => exact r.elim
  | er x => rw [e] at h; exact h.elim
  | stuck => rw [e] at h; exact h.elim
theorem AtS.oaNone {g : Gh} {S H : Hp} {Γ : List (Option Tm)} {σ : St} {τ : List (V × Tm)} {v : V} {oa : Option Addr} {c : Cell} (h : AtS K g S Γ σ ((v, .own oa c) :: τ) H) : AtS K g S Γ σ ((v, .own none c) :: τ) H := by
  refine ⟨h.base, h.len, fun x hx => ?_, h.ns, fun x hx k e => ?_, ?_⟩
  · rcases List.mem_append.mp hx with hx | hx
    · exact h.all x (List.mem_append_left _ hx)
    · rcases List.mem_cons.mp hx with rfl | hx
      · obtain ⟨a, o, e, _, k⟩ := h.top
        exact ⟨a, o, e, fun b z => (nomatch z), k⟩
      · exact h.all x (List.mem_append_right _ (List.mem_cons_of_mem _ hx))
  · rcases List.mem_cons.mp hx with rfl | hx
    · cases e
    · exact h.al x (List.mem_cons_of_mem _ hx) k e
  · have := h.nd
    rw [addrs_append] at this ⊢
    cases v <;> exact this
/-- [.. for .. in .. if ..] -/
theorem f_lc {m : R (List β)} {f : sT → β → R (sT × Option γ)} (Gl : sT → List (Option Tm)) (s0 : sT) {g : Gh} {σ : St} {τ : List (V × Tm)} {H : Hp} {Q : VK} {E : Er → Prop} (hi : ITM K (Gl s0) wi m e) (ht : ∀ b, TJ K tg (e b) js (ps b)) (nd : js.Nodup)
    (hn : ∀ s, ∀ j ∈ js, (Gl s)[j]? = some none) (hv : ∀ s, ∀ j ∈ vs, (Gl s)[j]? = some none) (hsub : ∀ j ∈ js, j ∈ vs) (hl : LJ K Gl js ps enc tt te f) (hA : At K g (Gl s0) σ τ H)
    (hm : OutR (bindR m fun xs => lcR f xs s0 []) (fun r => ∀ v H', At K g (Gl r.1) σ ((v, oL enc r.2) :: τ) H' → Q v H') E) : tLc wi tg tt te vs σ H Q := by
  have hm2 : OutR m (fun xs => OutR (lcR f xs s0 []) (fun r => ∀ v H', At K g (Gl r.1) σ ((v, oL enc r.2) :: τ) H' → Q v H') E) E := by
    cases m <;> first | exact hm | (rename_i z; exact z.elim)
  show wi σ H _
  refine hi g σ τ H _ E hA (hm2.imp (fun xs q J Gd Y S1 H' w es ef hA' hG hY D hD => ?_) fun _ q => q)
  refine lc_it w (fun i H => ∃ s acc, At K ⟨S1, g.F⟩ (Gl s) σ ((.ref D, .own (some D) (.lst (acc.map enc))) :: τ) H ∧ OutR (lcR f (xs.drop i) s acc) (fun r => ∀ v H', At K g (Gl r.1) σ ((v, oL enc r.2) :: τ) H' → Q v H') E)
    ⟨s0, [], ?_, by rw [List.drop_zero]; exact q⟩ (fun i H _ ⟨s, acc, ⟨S2, h2⟩, _⟩ => hG S2 H h2.base) ?_ ?_
  · obtain ⟨S, h⟩ := hA'
    exact ⟨S, h.freshA (fun b z => (Option.some.inj z).symm) hD ⟨[], rfl, .nil⟩⟩
  · rintro i x H H' hi ⟨s, acc, hA2, q3⟩ hy
    have hx : xs[i]? = some xs[i] := List.getElem?_eq_getElem hi
    rw [List.drop_eq_getElem_cons hi] at q3
    have q4 := lcR_out q3
    have hA3 : At K ⟨S1, g.F⟩ (Gl s) (wipe σ vs) ((.ref D, .own (some D) (.lst (acc.map enc))) :: τ) H := by
      obtain ⟨S, h⟩ := hA2
      exact ⟨S, h.slots (fun j t ej => wipe_get fun z => by rw [hv s j z] at ej; cases ej) (by rw [wipe_length]; exact h.len)⟩
    have hal : ∀ y ∈ (V.ref D, Tm.own (some D) (.lst (acc.map enc))) :: τ, ∀ k, y.2 = Tm.als k → k ∉ js := fun y hy k ek hk => by
      obtain ⟨S, h⟩ := hA2
      obtain ⟨oa, c, q⟩ := h.al y hy k ek
      rw [hn s k hk] at q; cases q
    refine (ht xs[i]).2 ⟨S1, g.F⟩ (Gl s) (wipe σ vs) _ H' x _ (fun j hj => (List.getElem?_eq_some_iff.mp (hn s j hj)).1) hal (hY i _ x H H' _ _ _ hx hy hA3) fun ws H2 _ hA4 => ⟨wipe_set hsub, ?_⟩
    -- back to the slots of the def
    have back : ∀ {s' : sT} {τ' : List (V × Tm)} {H3 : Hp}, At K ⟨S1, g.F⟩ (setG (Gl s') js (ps xs[i])) (setS (wipe σ vs) js ws) τ' H3 → At K ⟨S1, g.F⟩ (Gl s') σ τ' H3 := fun {s' τ' H3} ⟨S, h⟩ => by
      have h5 := forget nd (hn s') h
      have hlen : (Gl s').length ≤ σ.length := by
        have := h5.len
        rw [setS_len, wipe_length] at this
        exact this
      exact ⟨S, h5.slots (fun j t ej => by
        have n1 : j ∉ js := fun z => by rw [hn s' j z] at ej; cases ej
        have n2 : j ∉ vs := fun z => by rw [hv s' j z] at ej; cases ej
        rw [setS_get n1, wipe_get n2]) hlen⟩
    have := hl s xs[i] ⟨S1, g.F⟩ (setS (wipe σ vs) js ws) _ H2 (fun o H4 => match o with
      | none => ∃ s acc, At K ⟨S1, g.F⟩ (Gl s) σ ((.ref D, .own (some D) (.lst (acc.map enc))) :: τ) H4 ∧ OutR (lcR f (xs.drop (i + 1)) s acc) (fun r => ∀ v H', At K g (Gl r.1) σ ((v, oL enc r.2) :: τ) H' → Q v H') E
      | some y => ∃ acc, H4 D = some (.lst acc) ∧ acc.length < sizeLine ∧ ∃ s acc', At K ⟨S1, g.F⟩ (Gl s) σ ((.ref D, .own (some D) (.lst (acc'.map enc))) :: τ) (upd H4 D (.lst (acc ++ [y]))) ∧ OutR (lcR f (xs.drop (i + 1)) s acc') (fun r => ∀ v H', At K g (Gl r.1) σ ((v, oL enc r.2) :: τ) H' → Q v H') E) hA4 (q4.imp (fun r q5 => ?_) fun _ q5 => q5)
    · exact this
    · obtain ⟨s1, o⟩ := r
      cases o with
      | none => exact fun H4 h4 => ⟨s1, acc, back h4, q5⟩
      | some y =>
        intro v H4 h4
        obtain ⟨q6, q7⟩ := q5
        obtain ⟨S, h5⟩ := back h4
        have hv5 : Hd K (enc y) v S := h5.top
        obtain ⟨a, o, e1, e2, _, _, e3, vs3, rfl, d3⟩ := h5.pop.top
        cases e1
        obtain ⟨o2, _, _, h6⟩ := h5.pop.writeT (c' := .lst ((acc ++ [y]).map enc)) (o' := .lst (vs3 ++ [v])) ⟨_, rfl, by rw [List.map_append]; exact d3.append (.cons hv5 .nil)⟩
        exact ⟨vs3, e3, by rw [d3.len, List.length_map]; exact lt_line q6, s1, acc ++ [y], ⟨S, h6⟩, q7⟩
  · rintro H ⟨s, acc, hA2, q3⟩
    rw [List.drop_length] at q3
    obtain ⟨S, h⟩ := hA2
    exact q3 (.ref D) H (At.unS ⟨S, h.oaNone⟩ es ef)
end

/-! ### a def's body -/
section
open PyProof.Rows (envOfC)
variable {P : Program} {w : World} {K : PySem.W.Frag} {mg : Str → Option Value} {base : Heap} {EC : Str → Addr} {α ρ : Type} {n : Nat} {pre : α → List Addr → List (Option Tm)} {post : ρ → List Addr → List (Option Tm)} {ret : ρ → Tm}
abbrev W0 (E : XK) : WX := fun cls d _ H => E cls d H
theorem start_at {g : Gh} {Γ : List (Option Tm)} {N : List Str} {vs : List V} {H : Hp} (h : At K g Γ (vs.map some) [] H) (hl : vs.length = Γ.length) : At K g (Γ ++ List.replicate (N.length - vs.length) none) (L2.start N vs) [] H := by
  obtain ⟨S, h⟩ := h
  have e : ∀ (Γ : List (Option Tm)) (σ : St) (k : Nat), Γ.length = σ.length → pack (σ ++ List.replicate k none) (Γ ++ List.replicate k none) = pack σ Γ := by
    intro Γ
    induction Γ with
    | nil =>
      intro σ k hl
      cases σ with
      | cons _ _ => simp at hl
      | nil =>
        induction k with
        | zero => rfl
        | succ k ih => simpa [pack, List.replicate_succ] using ih
    | cons x Γ ih =>
      intro σ k hl
      cases σ with
      | nil => simp at hl
      | cons y σ =>
        have := ih σ k (by simpa using hl)
        cases x with
        | none => simpa [pack] using this
        | some t => cases y <;> simpa [pack] using this
  have ep := e Γ (vs.map some) (N.length - vs.length) (by simpa using hl.symm)
  unfold L2.start
  refine ⟨S, h.base, by simp [hl], fun x hx => ?_, by rw [ep]; exact h.ns, (fun x hx => nomatch hx), by rw [ep]; exact h.nd⟩
  rw [ep] at hx
  have q := h.all x hx
  obtain ⟨v', t'⟩ := x
  cases t' with
  | als j =>
    rw [List.append_nil] at hx
    exact absurd rfl (h.ns _ hx j)
  | dat _ => exact q
  | own _ _ => exact q
  | bad => exact q
/-- a def whose mirror always hands back -/
theorem fn_ok {x qual : Str} {st : Stmt} {f : Addr} {fd : FuncData} {N pn : List Str} {k : Nat} (F : Fun K x qual st f fd) (S : FnScope N pn (defScope st)) (hn : pn.length = n) (mb : α → O ρ Empty Empty)
    (hbody : ∀ (cdv : Value) (A : Around) (outer : List Env) (s : Shared) (H : Hp) (E : XK), Room k (A.deeper (envOfC qual (defScope st) s.heap.objs.size f cdv)) →
      ∃ ts, PSs (cxOf (L2.CX P w) P w K mg base N qual (defScope st) f cdv A outer s H E) (defBody st) ts ∧
        ∀ (arg : α) (as : List Addr), (pre arg as).length = n → BJ K (⟨EC, fun r => post r as, ret, [], WE (W0 E)⟩ : Fx ρ) (pre arg as ++ List.replicate (N.length - n) none) ts (mb arg) (fun _ => []) (fun _ => []) (fun _ => [])) :
    FnOk P w K mg base (L2.CX P w) (k + 1) f fd pn (Spec K EC n pre (fun a => fin (mb a) fun z => z.elim) post ret) := by
  refine F.okX S (fun vs H Q E h => ?_) fun cdv A outer s H vs Q E hr h => ?_
  · rw [h.1, hn]
  · obtain ⟨ts, h1, h2⟩ := hbody cdv A outer s H E hr
    obtain ⟨hl, arg, as, g, hp, hA, hm⟩ := h
    refine ⟨ts, h1, h2 arg as hp g _ H _ ?_ ?_⟩
    · have := start_at (N := N) hA (by rw [hl, hp])
      rw [hl] at this
      exact this
    · dsimp only at hm
      cases e : mb arg with
      | nx a => exact a.elim
      | rt r => rw [e] at hm; exact fun v H' σ' h' => hm v H' σ' h'
      | bk l => exact l.elim
      | ct l => exact l.elim
      | er x => rw [e] at hm; exact hm
      | stuck => rw [e] at hm; exact hm.elim
/-- a def that may come to its end -/
theorem fn_okN {x qual : Str} {st : Stmt} {f : Addr} {fd : FuncData} {N pn : List Str} {k : Nat} (F : Fun K x qual st f fd) (S : FnScope N pn (defScope st)) (hn : pn.length = n) (mb : α → O ρ Empty ρ) (hN : ∀ r, ret r = .dat eN)
    (hbody : ∀ (cdv : Value) (A : Around) (outer : List Env) (s : Shared) (H : Hp) (E : XK), Room k (A.deeper (envOfC qual (defScope st) s.heap.objs.size f cdv)) →
      ∃ ts, PSs (cxOf (L2.CX P w) P w K mg base N qual (defScope st) f cdv A outer s H E) (defBody st) ts ∧
        ∀ (arg : α) (as : List Addr), (pre arg as).length = n → BJ K (⟨EC, fun r => post r as, ret, [], WE (W0 E)⟩ : Fx ρ) (pre arg as ++ List.replicate (N.length - n) none) ts (mb arg) (fun r => post r as) (fun _ => []) (fun _ => [])) :
    FnOk P w K mg base (L2.CX P w) (k + 1) f fd pn (Spec K EC n pre (fun a => fin (mb a) .nx) post ret) := by
  refine F.okX S (fun vs H Q E h => ?_) fun cdv A outer s H vs Q E hr h => ?_
  · rw [h.1, hn]
  · obtain ⟨ts, h1, h2⟩ := hbody cdv A outer s H E hr
    obtain ⟨hl, arg, as, g, hp, hA, hm⟩ := h
    refine ⟨ts, h1, h2 arg as hp g _ H _ ?_ ?_⟩
    · have := start_at (N := N) hA (by rw [hl, hp])
      rw [hl] at this
      exact this
    · dsimp only at hm
      cases e : mb arg with
      | nx r => rw [e] at hm; exact fun σ' H' h' => hm .non H' σ' (by rw [hN r]; exact h'.scal fun _ => rfl)
      | rt r => rw [e] at hm; exact fun v H' σ' h' => hm v H' σ' h'
      | bk l => exact l.elim
      | ct l => exact l.elim
      | er x => rw [e] at hm; exact hm
      | stuck => rw [e] at hm; exact hm.elim
end
end Gv

set_option Elab.async false
set_option linter.all false
set_option maxRecDepth 100000
set_option maxHeartbeats 2000000
/-! Gv: errors -/
namespace Gv
open PySem L2

/-! ### several clauses, with names or without -/
structure Hn where
  c : Value
  i : Option Nat
  ts : Addr → Value → Option Addr → TS
def goN (i : Option Nat) (P : St → Hp → Prop) : St → Hp → Prop := match i with
  | none => P
  | some j => fun σ H => P (σ.set j none) H
def setN (i : Option Nat) (σ : St) (a : Addr) : St := match i with
  | none => σ
  | some j => σ.set j (some (.ref a))
def endN (i : Option Nat) (D : Ends) : Ends := ⟨goN i D.nx, D.rt, goN i D.bk, goN i D.ct⟩
def wHs (K : PySem.W.Frag) (Wout : WX) (D : Ends) : List Hn → WX
  | [] => Wout
  | h :: r => fun cls d σ H => ∃ b, PySem.W.exmOne K cls h.c = some b ∧ (b = true → ∀ a, H a = none → h.ts a cls d (endN h.i D) (setN h.i σ a) H) ∧ (b = false → wHs K Wout D r cls d σ H)
/-- a try's reading -/
def tTry (K : PySem.W.Frag) (Wout : WX) (l : List Hn) (tb : WX → TS) : TS := fun D σ H => tb (wHs K Wout D l) D σ H
inductive HsOk (X : Cx) : List ExceptHandler → List Hn → Prop
  | nil : HsOk X [] []
  | plain {x : Str} {c : Value} {ts : Addr → Value → Option Addr → TS} {b0 : Stmt} {suite : List Stmt} {np pos' : Pos} {hds : List ExceptHandler} {l : List Hn} (hc : Names X x c)
      (hsu : ∀ (a : Addr) (oe : Obj) (cls : Value) (d : Option Addr) (pn : List (Addr × Obj)), Zc cls d oe → (∃ vs, oe.data = .fields vs) → PSs (X.suite a ((a, oe) :: pn)) (b0 :: suite) (ts a cls d)) (r : HsOk X hds l) :
      HsOk X (.ExceptHandler (some (.Name x np)) none (b0 :: suite) pos' :: hds) (⟨c, none, ts⟩ :: l)
  | named {x n : Str} {i : Nat} {c : Value} {ts : Addr → Value → Option Addr → TS} {b0 : Stmt} {suite : List Stmt} {np pos' : Pos} {hds : List ExceptHandler} {l : List Hn} (hc : Names X x c) (hi : X.N[i]? = some n) (hln : X.env.kindOf n = some .local)
      (hsu : ∀ (a : Addr) (oe : Obj) (cls : Value) (d : Option Addr) (pn : List (Addr × Obj)), Zc cls d oe → (∃ vs, oe.data = .fields vs) → PSs (X.suite a ((a, oe) :: pn)) (b0 :: suite) (ts a cls d)) (r : HsOk X hds l) :
      HsOk X (.ExceptHandler (some (.Name x np)) (some n) (b0 :: suite) pos' :: hds) (⟨c, some i, ts⟩ :: l)
section
variable {X : Cx} {body : List Stmt} {h₀ : ExceptHandler} {hds : List ExceptHandler} {l : List Hn} {pos : Pos} {tb : WX → TS} {Wout : WX}
theorem ps_try (hs : X.stack = X.env :: X.outer) (hf : X.env.frame = some X.env.locals) (hN : X.N.Nodup) (tk : Takes X Wout)
    (hb : ∀ (W : WX) (pn : List (Addr × Obj)) (xe : Value → Shared → Prop), Takes (X.tr pn xe) W → PassesOwn (model X.prog X.w) X.A X.env xe → PSs (X.tr pn xe) body (tb W))
    (hh : HsOk X (h₀ :: hds) l) : PS X (.Try body (h₀ :: hds) [] [] pos) (tTry X.K Wout l tb) := by
  refine ⟨fun pins s σ H D I hw => ?_⟩
  have ok := I.ok
  have frs0 : X.A.frames = some (X.env :: X.outer) := by rw [ok.frames, hs]
  refine wpAny_Try_except ?_
  have bodyOk := (hb (wHs X.K Wout D l) (X.pn ++ pins)
    (fun e s1 => wpAny (model X.prog X.w) X.A (noteFrame e X.env) (fun _ s2 => wpAny (model X.prog X.w) X.A (setFlight e none)
      (fun _ s3 => wpAny (model X.prog X.w) X.A (handleBy e X.env (h₀ :: hds)) (SP X pins D) X.xe s3) X.xe s2) X.xe s1)
    ?caught PassesOwn.looking).run [] s σ H D (I.toTry _) hw
  case caught =>
    intro u s' xx
    obtain ⟨a, B, sI, pins', σ', H', cls, d, eu, J', nb, up, sky, na, os, ag, w⟩ := xx
    subst eu
    have J : Inv X pins σ' H' sI := J'.ofTry ok
    have sky2 : Sky B (X.env :: X.outer) a (Zc cls d) X.env.locals s'.heap := hs ▸ sky
    show wpAny (model X.prog X.w) X.A (noteFrame (.ref a) X.env) _ _ _
    refine Sky.land Zc.steady frs0 hf sky2 fun g3 fl3 up3 => ?_
    have J3 : Inv X pins σ' H' { s' with heap := g3 } := J.landed nb fl3.1 (up.trans up3) os ag
    obtain ⟨o3, v3, at3, z3, dat3⟩ := fl3.there
    have out : a ∉ frs (X.env :: X.outer) := fun hm => by
      obtain ⟨_, o', e', hnf⟩ := fl3.2.2.1.mem hm
      rw [at3] at e'
      cases e'
      exact hnf _ dat3
    have offL : a ≠ X.env.locals := fun z => out (List.mem_filterMap.mpr ⟨X.env, List.mem_cons_self, by rw [hf, z]⟩)
    have offF : a ∉ X.fs := fun hm => by
      obtain ⟨e, he, q⟩ := List.mem_filterMap.mp hm
      exact out (List.mem_filterMap.mpr ⟨e, List.mem_cons_of_mem _ he, q⟩)
    have S3 := J3.suite at3 dat3 na offL offF
    -- a clause's class is asked
    have asked : ∀ {x : Str} {np : Pos} {c : Value} {Q E : Value → Shared → Prop}, Names X x c → Q c { s' with heap := g3 } →
        wpAny (model X.prog X.w) (X.A.mark (some (.ref a))) (eval (.Name x np) X.env) Q E { s' with heap := g3 } := fun {x np c Q E} hc q => by
      obtain ⟨hg, hdbg, hm | ⟨hm, hv, hnn⟩⟩ := hc
      · exact ld_glob (X := X.suite a ((a, o3) :: (X.pn ++ pins))) S3 hg hm q hdbg
      · exact ld_blt (X := X.suite a ((a, o3) :: (X.pn ++ pins))) S3 hg hm hv q hnn hdbg
    have look : PySem.W.Looks (model X.prog X.w) g3 (typeOf (.ref a)) cls := fun A Q E s k q => wpAny_typeOf_ref (k _ _ at3) (by rw [z3.1]; exact q)
    have go : ∀ {hd : List ExceptHandler} {l' : List Hn}, HsOk X hd l' → wHs X.K Wout D l' cls d σ' H' → wpAny (model X.prog X.w) X.A (handleBy (.ref a) X.env hd) (SP X pins D) X.xe { s' with heap := g3 } := by
      intro hd l' hk
      induction hk with
      | nil =>
        intro w
        refine wpAny_handleBy_nil ?_
        obtain ⟨k1, k2, k3, oe, vs, T, oT, ts', he, hz, hd, h1, hr⟩ := id fl3
        unfold PySem.passOn
        refine wpAny_bind (wpAny_field he hd h1 ?_)
        rw [if_neg (show ¬ ((Value.ref T == Value.none) = true) from by simp)]
        have fly : wpAny (model X.prog X.w) X.A (setFlight (.ref a) X.env.frame)
            (fun _ s4 => wpAny (model X.prog X.w) X.A (throw (.ref a) : Sem Flow) (SP X pins D) X.xe s4) X.xe { s' with heap := g3 } := by
          rw [hf]
          refine HandSPX.setFlight_upZ fl3 fun g4 hh4 up4 => wpAny_throw (tk _ _ ?_)
          refine ⟨a, B, sI, pins, σ', H', cls, d, rfl, J, nb, (up.trans up3).trans up4, .inr (.inr ?_), na, os, ag, w⟩
          rw [hs]
          exact hh4
        first
          | exact wpAny_bind (wpAny_pure (wpAny_bind fly))
          | exact wpAny_bind fly
      | plain hc hsu r ih =>
        intro w
        obtain ⟨b, hb1, hyes, hno⟩ := w
        refine wpAny_handleBy_cons (codeAny_handlers_test ?_) (by intro q; cases q)
        refine asked hc ((PySem.W.exm_one (M := model X.prog X.w) J3.kIn look hb1).here ?_)
        cases b with
        | false =>
          show wpAny _ X.A (handleBy (.ref a) X.env _) _ _ _
          exact ih (hno rfl)
        | true =>
          refine codeAny_handlers_suite (HandSPX.lands_againZ fl3 fun g4 fl4 up4 => ?_)
          have J4 : Inv X pins σ' H' { s' with heap := g4 } := J.landed nb fl4.1 ((up.trans up3).trans up4) os ag
          obtain ⟨o4, v4, at4, z4, dat4⟩ := fl4.there
          have S4 := J4.suite at4 dat4 na offL offF
          refine wpAny_mono ((hsu a o4 cls d (X.pn ++ pins) z4 ⟨_, dat4⟩).run [] _ _ H' _ S4 (hyes rfl a na)) (fun f s6 hsp => ?_) (fun _ _ z => False.elim z)
          cases f with
          | next => obtain ⟨p, q, S6, q6⟩ := hsp; exact ⟨p, q, S6.unsuite ok, q6⟩
          | brk => obtain ⟨p, q, S6, q6⟩ := hsp; exact ⟨p, q, S6.unsuite ok, q6⟩
          | cont => obtain ⟨p, q, S6, q6⟩ := hsp; exact ⟨p, q, S6.unsuite ok, q6⟩
          | ret u => obtain ⟨v6, p, q, S6, r6, q6⟩ := hsp; exact ⟨v6, p, q, S6.unsuite ok, r6, q6⟩
      | named hc hi hln hsu r ih =>
        intro w
        obtain ⟨b, hb1, hyes, hno⟩ := w
        refine wpAny_handleBy_cons (codeAny_handlers_test ?_) (by intro q; cases q)
        refine asked hc ((PySem.W.exm_one (M := model X.prog X.w) J3.kIn look hb1).here ?_)
        cases b with
        | false =>
          show wpAny _ X.A (handleBy (.ref a) X.env _) _ _ _
          exact ih (hno rfl)
        | true =>
          refine codeAny_handlers_suite_as (HandSPX.lands_againZ fl3 fun g4 fl4 up4 => ?_)
          have J4 : Inv X pins σ' H' { s' with heap := g4 } := J.landed nb fl4.1 ((up.trans up3).trans up4) os ag
          obtain ⟨o4, v4, at4, z4, dat4⟩ := fl4.there
          have S4 := J4.suite at4 dat4 na offL offF
          refine store_ok (X := X.suite a ((a, o4) :: (X.pn ++ pins))) (v := .ref a) S4 hN hi (.inl hln) rfl (fun s5 S5 => ?_) (.inr hln)
          refine wpAny_mono ((hsu a o4 cls d (X.pn ++ pins) z4 ⟨_, dat4⟩).run [] s5 _ H' _ S5 (hyes rfl a na)) (fun f s6 hsp => ?_) (fun _ _ z => False.elim z)
          cases f with
          | next => obtain ⟨p, q, S6, q6⟩ := hsp; exact gone_ok (S6.unsuite ok) hN hi hln fun s7 J7 => ⟨_, _, J7, q6⟩
          | brk => obtain ⟨p, q, S6, q6⟩ := hsp; exact gone_ok (S6.unsuite ok) hN hi hln fun s7 J7 => ⟨_, _, J7, q6⟩
          | cont => obtain ⟨p, q, S6, q6⟩ := hsp; exact gone_ok (S6.unsuite ok) hN hi hln fun s7 J7 => ⟨_, _, J7, q6⟩
          | ret u => obtain ⟨v6, p, q, S6, r6, q6⟩ := hsp; exact gone_ok (S6.unsuite ok) hN hi hln fun s7 J7 => ⟨_, _, _, J7, r6, q6⟩
    exact go hh w
  refine wpAny_mono bodyOk (fun f s1 hsp => ?_) (fun e s1 he => he)
  cases f with
  | next => obtain ⟨p, q, J, q1⟩ := hsp; exact wpAny_execs_nil ⟨p, q, J.ofTry ok, q1⟩
  | brk => obtain ⟨p, q, J, q1⟩ := hsp; exact ⟨p, q, J.ofTry ok, q1⟩
  | cont => obtain ⟨p, q, J, q1⟩ := hsp; exact ⟨p, q, J.ofTry ok, q1⟩
  | ret u => obtain ⟨v, p, q, J, r, q1⟩ := hsp; exact ⟨v, p, q, J.ofTry ok, r, q1⟩
end

/-! ### mirrors of try -/
def tryO {ρ lam α : Type} (m : O ρ lam α) (h : Er → O ρ lam α) : O ρ lam α := match m with
  | .er x => h x
  | m => m
def noEr {ρ lam α : Type} (m : O ρ lam α) : O ρ lam α := match m with
  | .er _ => .stuck
  | m => m
/-- one clause: its class asked, its suite, the other clauses -/
def clO {ρ lam α : Type} (sub : Str → Option Bool) (ms h : Er → O ρ lam α) (x : Er) : O ρ lam α := match sub x.c with
  | some true => noEr (ms x)
  | some false => h x
  | none => .stuck
/-- the exception that a suite holds -/
def eX (a : Addr) (d : Option Addr) (x : Er) : VP := fun K v S => v = .ref a ∧ XF K S x d
theorem XF.mono {K : PySem.W.Frag} {S S' : Hp} {x : Er} {d : Option Addr} (h : XF K S x d) (e : Same S S') : XF K S' x d := by
  rcases h with h | ⟨dd, fsV, h1, h2, h3⟩
  · exact .inl h
  · exact .inr ⟨dd, fsV, h1, e _ _ h2, Paired.mapP h3 fun _ _ q => ⟨q.1, q.2.mono e⟩⟩
section
variable {K : PySem.W.Frag} {ρ lam α : Type} {X : Fx ρ} {Γ Gt : List (Option Tm)} {n : α → List (Option Tm)} {b c : lam → List (Option Tm)} {t u : TS} {te : TE} {W Wout : WX}
theorem Out.noEr {m : O ρ lam α} {N : α → Prop} {T : ρ → Prop} {B C : lam → Prop} {E E' : Er → Prop} (h : Out (Gv.noEr m) N T B C E) : Out m N T B C E' := by
  cases m <;> first | exact h | exact h.elim
def slotX (io : Option Nat) (G : List (Option Tm)) (a : Addr) (d : Option Addr) (x : Er) : List (Option Tm) := match io with
  | none => G
  | some i => G.set i (some (.dat (eX a d x)))
inductive HJ (K : PySem.W.Frag) {ρ lam α : Type} (X : Fx ρ) (Gt : List (Option Tm)) (n : α → List (Option Tm)) (b c : lam → List (Option Tm)) : List Hn → (Er → O ρ lam α) → Prop
  | nil : HJ K X Gt n b c [] (fun x => .er x)
  | cons {cl : Value} {io : Option Nat} {ts : Addr → Value → Option Addr → TS} {l : List Hn} {sub : Str → Option Bool} {ms h : Er → O ρ lam α}
      (hsub : ∀ nm r, sub nm = some r → PySem.W.exmOne K (.ref (X.EC nm)) cl = some r)
      (hi : ∀ i, io = some i → i < Gt.length ∧ (∀ a, (n a)[i]? = some none ∨ (n a)[i]? = none) ∧ (∀ a, (b a)[i]? = some none ∨ (b a)[i]? = none) ∧ (∀ a, (c a)[i]? = some none ∨ (c a)[i]? = none))
      (hs : ∀ x a d, BJ K { X with EW := fun _ _ _ _ => False } (slotX io Gt a d x) (ts a (.ref (X.EC x.c)) d) (ms x) n b c)
      (r : HJ K X Gt n b c l h) : HJ K X Gt n b c (⟨cl, io, ts⟩ :: l) (clO sub ms h)
theorem At.anyS {g : Gh} {σ : St} {H : Hp} {i : Nat} (h : At K g Γ σ [] H) (hn : Γ[i]? = some none ∨ Γ[i]? = none) (x : Option V) : At K g Γ (σ.set i x) [] H := by
  obtain ⟨S, h⟩ := h
  exact ⟨S, h.any hn x⟩
theorem HJ.go {l : List Hn} {h : Er → O ρ lam α} (hj : HJ K X Gt n b c l h) (hEW : X.EW = WE Wout) (hw : Le X.Gw Gt) {g : Gh} {D : Ends} {x : Er} (hm : Out (h x) (NxW K g n D.nx) (RtW K g X D.rt) (NxW K g b D.bk) (NxW K g c D.ct) (ErW K g X)) {σ' : St} {H' S' : Hp} {d : Option Addr}
    (hA : AtS K g S' Gt σ' [] H') (hx : XF K S' x d) : wHs K Wout D l (.ref (X.EC x.c)) d σ' H' := by
  induction hj with
  | nil =>
    have sub : (pack σ' X.Gw ++ []).Sublist (pack σ' Gt ++ []) := (hw.sub σ').append_right []
    have h2 : AtS K g S' X.Gw σ' [] H' := ⟨hA.base, Nat.le_trans hw.len hA.len, fun y hy => hA.all y (sub.subset hy), fun y hy => hA.ns y ((hw.sub σ').subset hy), (fun y hy => nomatch hy), hA.nd.sublist (addrs_sub sub)⟩
    have q := hm σ' H' S' d h2 hx
    rw [hEW] at q
    exact q
  | @cons cl io ts l sub ms h hsub hi hs r ih =>
    unfold clO at hm
    cases e : sub x.c with
    | none => rw [e] at hm; exact hm.elim
    | some r =>
      rw [e] at hm
      cases r with
      | false => exact ⟨false, hsub _ _ e, (fun z => nomatch z), fun _ => ih hm⟩
      | true =>
        refine ⟨true, hsub _ _ e, fun _ a na => ?_, (fun z => nomatch z)⟩
        cases io with
        | none => exact hs x a d g σ' H' _ ⟨S', hA⟩ hm.noEr
        | some i =>
          obtain ⟨h1, h2, h3, h4⟩ := hi i rfl
          have hA2 : AtS K g S' (Gt.set i (some (.dat (eX a d x)))) (σ'.set i (some (.ref a))) [] H' := (hA.push (p := eX a d x) (v := .ref a) (.of ⟨rfl, hx⟩)).set h1 (fun j z => nomatch z) (fun y hy => nomatch hy)
          refine hs x a d g (σ'.set i (some (.ref a))) H' _ ⟨S', hA2⟩ (hm.noEr.imp (fun y q σ2 H2 hA3 => q _ _ (hA3.anyS (h2 y) none)) (fun _ q => q) (fun y q σ2 H2 hA3 => q _ _ (hA3.anyS (h3 y) none)) (fun y q σ2 H2 hA3 => q _ _ (hA3.anyS (h4 y) none)) fun _ q => q)
theorem bj_try {l : List Hn} {tb : WX → TS} {mb : O ρ lam α} {h : Er → O ρ lam α} (hEW : X.EW = WE Wout) (hw : Le X.Gw Gt) (hb : ∀ W, BJ K { X with Gw := Gt, EW := WE W } Γ (tb W) mb n b c) (hh : HJ K X Gt n b c l h) :
    BJ K X Γ (tTry K Wout l tb) (tryO mb h) n b c := fun g σ H D hA hm => by
  show tb (wHs K Wout D l) D σ H
  refine hb (wHs K Wout D l) g σ H D hA ?_
  cases mb with
  | nx a => exact hm
  | rt r => exact hm
  | bk l => exact hm
  | ct l => exact hm
  | stuck => exact hm
  | er x => exact fun σ' H' S' d hA' hx => hh.go hEW hw hm hA' hx

/-! ### raise X(e), class X: def __init__(self, f): self.f = f -/
def spIni1 (K : PySem.W.Frag) (f : Str) : Sp := fun vs H Q _ => ∃ (a C : Addr) (y : V), vs = [.ref a, y] ∧ H a = some (exo a C none) ∧ OexC K C ∧ PySem.W.findIn K (.ref C) f = some none ∧
  ∀ dx, H dx = none → dx ≠ a → Q .non (upd (upd H dx (exd dx [(f, y)])) a (exo a C (some dx)))
def spIni2 (K : PySem.W.Frag) (f f2 : Str) : Sp := fun vs H Q _ => ∃ (a C : Addr) (y z : V), vs = [.ref a, y, z] ∧ H a = some (exo a C none) ∧ OexC K C ∧ PySem.W.findIn K (.ref C) f = some none ∧ PySem.W.findIn K (.ref C) f2 = some none ∧
  ∀ dx, H dx = none → dx ≠ a → Q .non (upd (upd (upd H dx (exd dx [(f, y)])) a (exo a C (some dx))) dx (exd dx [(f2, z), (f, y)]))
theorem ini1_ok {σ : St} {f : Str} {vs : List V} {H : Hp} {Q : VK} {E : XK} {D : Ends} (hD : D.nx = fun _ H' => Q .non H') (h0 : ∀ a y, vs = [.ref a, y] → σ[0]? = some (some (.ref a)) ∧ σ[1]? = some (some y)) (h : spIni1 K f vs H Q E) : tSeq (tOst K f (tVar 0) (tVar 1)) tNext D σ H := by
  obtain ⟨a, C, y, e, h1, T, hno, k⟩ := h
  obtain ⟨e0, e1⟩ := h0 a y e
  refine ⟨y, e1, .ref a, e0, a, C, rfl, T, hno, .inl ⟨h1, fun dx n ne => ?_⟩⟩
  show D.nx σ _
  rw [hD]
  exact k dx n ne
theorem ini2_ok {σ : St} {f f2 : Str} {vs : List V} {H : Hp} {Q : VK} {E : XK} {D : Ends} (hD : D.nx = fun _ H' => Q .non H') (h0 : ∀ a y z, vs = [.ref a, y, z] → σ[0]? = some (some (.ref a)) ∧ σ[1]? = some (some y) ∧ σ[2]? = some (some z)) (h : spIni2 K f f2 vs H Q E) :
    tSeq (tOst K f (tVar 0) (tVar 1)) (tSeq (tOst K f2 (tVar 0) (tVar 2)) tNext) D σ H := by
  obtain ⟨a, C, y, z, e, h1, T, hno, hno2, k⟩ := h
  obtain ⟨e0, e1, e2⟩ := h0 a y z e
  refine ⟨y, e1, .ref a, e0, a, C, rfl, T, hno, .inl ⟨h1, fun dx n ne => ?_⟩⟩
  refine ⟨z, e2, .ref a, e0, a, C, rfl, T, hno2, .inr ⟨dx, _, upd_same, by rw [upd_ne ne, upd_same], by simp, ?_⟩⟩
  show D.nx σ _
  rw [hD]
  exact k dx n ne
/-- the heap behind C(y): the class's object is gone, its dict stands -/
theorem gone_heap {H : Hp} {a dx : Addr} {o1 o2 o3 o4 : HO} (n : H a = none) (ne : dx ≠ a) : upd (del (upd (upd (upd H a o1) dx o2) a o3) a) dx o4 = upd H dx o4 := by
  funext b
  by_cases hb : b = dx
  · subst hb; rw [upd_same, upd_same]
  · rw [upd_ne hb, upd_ne hb]
    by_cases ha : b = a
    · subst ha; rw [del_same, n]
    · rw [del_ne ha, upd_ne ha, upd_ne hb, upd_ne ha]
theorem gone_heap2 {H : Hp} {a dx : Addr} {o1 o2 o3 o4 o5 : HO} (n : H a = none) (ne : dx ≠ a) : upd (del (upd (upd (upd (upd H a o1) dx o2) a o3) dx o5) a) dx o4 = upd H dx o4 := by
  funext b
  by_cases hb : b = dx
  · subst hb; rw [upd_same, upd_same]
  · rw [upd_ne hb, upd_ne hb]
    by_cases ha : b = a
    · subst ha; rw [del_same, n]
    · rw [del_ne ha, upd_ne hb, upd_ne ha, upd_ne hb, upd_ne ha]
theorem bj_raise1 {C : Addr} {f cn : Str} {dv : PyData} (hC : X.EC cn = C) (T : OexC K C) (hno : PySem.W.findIn K (.ref C) f = some none) (hEW : X.EW = WE W) (hw : Le X.Gw Γ) (he : EV K Γ te (.dat (eD dv))) :
    BJ K X Γ (tSeq (fun _ σ H => tMkO C (spIni1 K f) [] (tCons te tNil) σ H fun cls d H' => W cls d σ H') u) (.er ⟨cn, [(f, dv)]⟩ : O ρ lam α) n b c := fun g σ H D hA hm => by
  refine he g σ [] H _ hA fun y H1 ⟨S, h⟩ => ⟨by simp, fun a na => ⟨a, C, y, rfl, upd_same, T, hno, fun dx nd ne => ⟨rfl, dx, [(f, y)], upd_same, ?_, ?_, ?_⟩⟩⟩
  · rw [upd_ne ne, upd_same]
  · rw [upd_ne ne] at nd; exact nd
  · rw [upd_ne ne] at nd
    rw [gone_heap na ne]
    have hv := h.top
    have h1 := (h.pop.lay (o := .xd [(f, y)]) nd)
    have sub : (pack σ X.Gw ++ []).Sublist (pack σ Γ ++ []) := (hw.sub σ).append_right []
    have h2 : AtS K g _ X.Gw σ [] (upd H1 dx (.xd [(f, y)])) := ⟨h1.base, Nat.le_trans hw.len h1.len, fun x hx => h1.all x (sub.subset hx), fun x hx => h1.ns x ((hw.sub σ).subset hx), (fun x hx => nomatch hx), h1.nd.sublist (addrs_sub sub)⟩
    have q := hm σ _ _ (some dx) h2 (.inr ⟨dx, [(f, y)], rfl, upd_same, .cons ⟨rfl, Hd.mono hv fun b o e => by rw [upd_ne (ne_of_none e (nS_of h nd))]; exact e⟩ .nil⟩)
    rw [hEW] at q
    rw [← hC]
    exact q
theorem bj_raise2 {C : Addr} {f f2 cn : Str} {dv dw : PyData} {te2 : TE} (hC : X.EC cn = C) (T : OexC K C) (hno : PySem.W.findIn K (.ref C) f = some none) (hno2 : PySem.W.findIn K (.ref C) f2 = some none) (hEW : X.EW = WE W) (hw : Le X.Gw Γ) (he : EV K Γ te (.dat (eD dv))) (he2 : EV K Γ te2 (.dat (eD dw))) :
    BJ K X Γ (tSeq (fun _ σ H => tMkO C (spIni2 K f f2) [] (tCons te (tCons te2 tNil)) σ H fun cls d H' => W cls d σ H') u) (.er ⟨cn, [(f2, dw), (f, dv)]⟩ : O ρ lam α) n b c := fun g σ H D hA hm => by
  refine he g σ [] H _ hA fun y H0 h0 => he2 g σ _ H0 _ h0 fun z H1 ⟨S, h⟩ => ⟨by simp, fun a na => ⟨a, C, y, z, rfl, upd_same, T, hno, hno2, fun dx nd ne => ⟨rfl, dx, [(f2, z), (f, y)], ?_, upd_same, ?_, ?_⟩⟩⟩
  · rw [upd_ne (Ne.symm ne), upd_same]
  · rw [upd_ne ne] at nd; exact nd
  · rw [upd_ne ne] at nd
    rw [gone_heap2 na ne]
    have hv := h.top
    have hv2 := h.pop.top
    have h1 := (h.pop.pop.lay (o := .xd [(f2, z), (f, y)]) nd)
    have sub : (pack σ X.Gw ++ []).Sublist (pack σ Γ ++ []) := (hw.sub σ).append_right []
    have h2 : AtS K g _ X.Gw σ [] (upd H1 dx (.xd [(f2, z), (f, y)])) := ⟨h1.base, Nat.le_trans hw.len h1.len, fun x hx => h1.all x (sub.subset hx), fun x hx => h1.ns x ((hw.sub σ).subset hx), (fun x hx => nomatch hx), h1.nd.sublist (addrs_sub sub)⟩
    have same : Same S (upd S dx (.xd [(f2, z), (f, y)])) := fun b o e => by rw [upd_ne (ne_of_none e (nS_of h nd))]; exact e
    have q := hm σ _ _ (some dx) h2 (.inr ⟨dx, [(f2, z), (f, y)], rfl, upd_same, .cons ⟨rfl, Hd.mono hv same⟩ (.cons ⟨rfl, Hd.mono hv2 same⟩ .nil)⟩)
    rw [hEW] at q
    rw [← hC]
    exact q
/-- err.f in a suite -/
def fldR (x : Er) (cn f : Str) : R PyData := if x.c = cn then (match x.fs.lookup f with
  | some d => .nx d
  | none => .stuck) else .stuck
theorem lookup_fs {S : Hp} {f : Str} {d : PyData} : ∀ {fs : List (Str × PyData)} {fsV : List (Str × V)}, Paired (fun (p : Str × PyData) (q : Str × V) => p.1 = q.1 ∧ Hd K (eD p.2) q.2 S) fs fsV → fs.lookup f = some d → ∃ v, fsV.lookup f = some v ∧ Hd K (eD d) v S
  | _, _, .nil, h => by simp at h
  | (a, p) :: _, (a', q) :: _, .cons r t, h => by
    obtain ⟨r1, r2⟩ := r
    have r1' : a = a' := r1
    subst r1'
    by_cases e : f = a
    · subst e
      simp only [List.lookup_cons, beq_self_eq_true] at h ⊢
      cases h
      exact ⟨q, rfl, r2⟩
    · have e2 : (f == a) = false := by simpa using e
      simp only [List.lookup_cons, e2] at h ⊢
      exact lookup_fs t h
theorem x_xf {a C : Addr} {d : Option Addr} {x : Er} {cn f : Str} {i : Nat} {EC : Str → Addr} {g : Gh} {σ : St} {τ : List (V × Tm)} {H : Hp} {Q : VK} {E : Er → Prop} (hC : EC cn = C) (hg : Γ[i]? = some (some (.dat (eX a d x)))) (hA : At K g Γ σ τ H)
    (hm : OutR (fldR x cn f) (fun y => ∀ v H', At K g Γ σ ((v, .dat (eD y)) :: τ) H' → Q v H') E) : tXf a (.ref (EC x.c)) d C f (tVar i) σ H Q :=
  ev_var hg g σ τ H _ hA fun v H1 ⟨S, h⟩ => by
    obtain ⟨S0, e0, hv, hx⟩ := h.top
    have hx := hx.mono e0
    unfold fldR at hm
    by_cases ec : x.c = cn
    · rw [if_pos ec] at hm
      cases el : x.fs.lookup f with
      | none => rw [el] at hm; exact hm.elim
      | some y =>
        rw [el] at hm
        rcases hx with ⟨hf, _⟩ | ⟨dd, fsV, h1, h2, h3⟩
        · rw [hf] at el; cases el
        · obtain ⟨w, w1, w2⟩ := lookup_fs h3 el
          exact ⟨hv, by rw [ec, hC], dd, fsV, w, h1, h.base.sh _ _ h2, w1, hm w H1 ⟨S, h.pop.push w2⟩⟩
    · rw [if_neg ec] at hm; exact hm.elim
end
end Gv

set_option Elab.async false
set_option linter.all false
set_option maxRecDepth 100000
set_option maxHeartbeats 2000000
/-! Gv: steps forward, data of any kind -/
namespace Gv
open PySem L2

/-! ### steps -/
section
variable {K : PySem.W.Frag} {ρ lam α β γ : Type} {X : Fx ρ} {Γ : List (Option Tm)} {g : Gh} {H : Hp} {σ : St} {τ : List (V × Tm)} {v x y : V} {t u z : Tm} {i : Nat} {ta tb tc te : TE} {r : R2} {Q : VK} {N : α → Prop} {T : ρ → Prop} {B C : lam → Prop} {E : Er → Prop}
theorem f_o2m {m : R γ} {zz : γ → Tm} {f : γ → O ρ lam α} (ho : O2M K Γ r t u m zz) (hA : At K g Γ σ ((y, u) :: (x, t) :: τ) H) (hm : Out (bindR m f) N T B C E) (k : ∀ a v H', At K g Γ σ ((v, zz a) :: τ) H' → Out (f a) N T B C E → Q v H') : r x y H Q :=
  ho g σ τ H x y Q E hA (hm.bindR.imp (fun a q v H' h' => k a v H' h' q) fun _ q => q)
theorem f_o1m {r : V → Hp → VK → Prop} {m : R γ} {zz : γ → Tm} {f : γ → O ρ lam α} (ho : O1M K Γ r t m zz) (hA : At K g Γ σ ((x, t) :: τ) H) (hm : Out (bindR m f) N T B C E) (k : ∀ a v H', At K g Γ σ ((v, zz a) :: τ) H' → Out (f a) N T B C E → Q v H') : r x H Q :=
  ho g σ τ H x Q E hA (hm.bindR.imp (fun a q v H' h' => k a v H' h' q) fun _ q => q)
theorem f_popm {e : γ → VP} {xs : List γ} {oa : Option Addr} {f : γ × List γ → O ρ lam α} (hg : Γ[i]? = some (some (.own oa (.lst (xs.map e))))) (hA : At K g Γ σ τ H) (hm : Out (bindR (popR xs) f) N T B C E)
    (k : ∀ r v H', At K g (Γ.set i (some (.own oa (.lst (r.2.map e))))) σ ((v, .dat (e r.1)) :: τ) H' → Out (f r) N T B C E → Q v H') : tBM0 K "list" rPop (tVar i) σ H Q :=
  x_pop hg hA (hm.bindR.imp (fun a q v H' h' => k a v H' h' q) fun _ q => q)
theorem bj_go {n : α → List (Option Tm)} {b c : lam → List (Option Tm)} {m : O ρ lam α} {ts : TS} {D : Ends} (hA : At K g Γ σ [] H) (hm : Out m (NxW K g n D.nx) (RtW K g X D.rt) (NxW K g b D.bk) (NxW K g c D.ct) (ErW K g X)) (h : BJ K X Γ ts m n b c) : ts D σ H := h g σ H D hA hm
theorem f_setgo {n : α → List (Option Tm)} {b c : lam → List (Option Tm)} {m : O ρ lam α} {us : TS} {D : Ends} (hA : At K g Γ σ [(v, t)] H) (hn : ∀ j, t ≠ .als j) (hi : Γ[i]?.isSome = true) (hm : Out m (NxW K g n D.nx) (RtW K g X D.rt) (NxW K g b D.bk) (NxW K g c D.ct) (ErW K g X)) (h : BJ K X (Γ.set i (some t)) us m n b c) : gName i v σ H (us D) :=
  h g _ H D (hA.set1 hn hi) hm
theorem f_setlt {n : α → List (Option Tm)} {b c : lam → List (Option Tm)} {f : β → O ρ lam α} {e : β} {us : TS} {D : Ends} (tm : β → Tm) (hA : At K g Γ σ [(v, tm e)] H) (hn : ∀ t j, tm t ≠ .als j) (hi : Γ[i]?.isSome = true) (hm : Out (lt e f) (NxW K g n D.nx) (RtW K g X D.rt) (NxW K g b D.bk) (NxW K g c D.ct) (ErW K g X)) (h : ∀ t, BJ K X (Γ.set i (some (tm t))) us (f t) n b c) : gName i v σ H (us D) :=
  h e g _ H D (hA.set1 (hn e) hi) hm
theorem f_dropgo {n : α → List (Option Tm)} {b c : lam → List (Option Tm)} {m : O ρ lam α} {us : TS} {D : Ends} (hA : At K g Γ σ [(v, t)] H) (hm : Out m (NxW K g n D.nx) (RtW K g X D.rt) (NxW K g b D.bk) (NxW K g c D.ct) (ErW K g X)) (h : BJ K X Γ us m n b c) : us D σ H :=
  h g _ H D hA.pop hm
/-- calls, argument by argument -/
theorem x_call1 {sp : Sp} {EW : St → XK} (h : ta σ H fun x H1 => sp [x] H1 Q (EW σ)) : tCallS sp EW (tCons ta tNil) σ H Q := h
theorem x_call2 {sp : Sp} {EW : St → XK} (h : ta σ H fun x H1 => tb σ H1 fun y H2 => sp [x, y] H2 Q (EW σ)) : tCallS sp EW (tCons ta (tCons tb tNil)) σ H Q := h
theorem x_call3 {sp : Sp} {EW : St → XK} (h : ta σ H fun x H1 => tb σ H1 fun y H2 => tc σ H2 fun z H3 => sp [x, y, z] H3 Q (EW σ)) : tCallS sp EW (tCons ta (tCons tb (tCons tc tNil))) σ H Q := h
theorem x_call4 {td : TE} {sp : Sp} {EW : St → XK} (h : ta σ H fun x H1 => tb σ H1 fun y H2 => tc σ H2 fun z H3 => td σ H3 fun w H4 => sp [x, y, z, w] H4 Q (EW σ)) : tCallS sp EW (tCons ta (tCons tb (tCons tc (tCons td tNil)))) σ H Q := h
theorem x_call5 {td te : TE} {sp : Sp} {EW : St → XK} (h : ta σ H fun x H1 => tb σ H1 fun y H2 => tc σ H2 fun z H3 => td σ H3 fun w H4 => te σ H4 fun w2 H5 => sp [x, y, z, w, w2] H5 Q (EW σ)) : tCallS sp EW (tCons ta (tCons tb (tCons tc (tCons td (tCons te tNil))))) σ H Q := h
/-- displays -/
def TupK (Q : VK) (xs : List V) (H : Hp) : Prop := xs.length ≤ sizeLine ∧ ∀ p, H p = none → Q (.ref p) (upd H p (.tup xs))
def LstK (Q : VK) (xs : List V) (H : Hp) : Prop := xs.length ≤ sizeLine ∧ ∀ p, H p = none → Q (.ref p) (upd H p (.lst xs))
theorem x_tup {ta : TA} (h : ta σ H fun xs H1 => TupK Q xs H1) : tTup ta σ H Q := h
theorem x_lst {ta : TA} (h : ta σ H fun xs H1 => LstK Q xs H1) : tLst ta σ H Q := h
theorem x_cons {tr : TA} {Q : List V → Hp → Prop} (h : ta σ H fun x H1 => tr σ H1 fun xs H2 => Q (x :: xs) H2) : tCons ta tr σ H Q := h
theorem x_nil {Q : List V → Hp → Prop} (h : Q [] H) : tNil σ H Q := h
theorem f_tup {vs : List V} (ps : List VP) (hA : At K g Γ σ ((vs.zip (ps.map Tm.dat)).reverse ++ τ) H) (hl : vs.length = ps.length) (hz : ps.length ≤ 100) (k : ∀ v H', At K g Γ σ ((v, .dat (rT ps)) :: τ) H' → Q v H') : TupK Q vs H := by
  obtain ⟨S, h⟩ := hA
  obtain ⟨d, h2⟩ := h.datas hl
  exact ⟨by rw [hl]; exact Nat.le_trans hz (by decide), fun a ha => k _ _ (h2.newT ha d)⟩
theorem f_lst {vs : List V} (ps : List VP) (hA : At K g Γ σ ((vs.zip (ps.map Tm.dat)).reverse ++ τ) H) (hl : vs.length = ps.length) (hz : ps.length ≤ 100) (k : ∀ v H', At K g Γ σ ((v, .own none (.lst ps)) :: τ) H' → Q v H') : LstK Q vs H := by
  obtain ⟨S, h⟩ := hA
  obtain ⟨d, h2⟩ := h.datas hl
  exact ⟨by rw [hl]; exact Nat.le_trans hz (by decide), fun a ha => k _ _ ⟨S, h2.fresh ha ⟨vs, rfl, d⟩⟩⟩
/-- tests -/
theorem x_not {tt : TT} {Q : Bool → Hp → Prop} (h : tt σ H fun c H1 => Q (!c) H1) : tNot tt σ H Q := h
theorem x_orT {tt uu : TT} {Q : Bool → Hp → Prop} (h : tt σ H fun c H1 => if c = true then Q true H1 else uu σ H1 Q) : tOr tt uu σ H Q := h
theorem x_andT {tt uu : TT} {Q : Bool → Hp → Prop} (h : tt σ H fun c H1 => if c = true then uu σ H1 Q else Q false H1) : tAnd tt uu σ H Q := h
theorem x_orV (h : ta σ H fun x H1 => ∃ c, x = .bl c ∧ if c = true then Q (.bl true) H1 else tb σ H1 Q) : tOrV ta tb σ H Q := h
theorem x_andV (h : ta σ H fun x H1 => ∃ c, x = .bl c ∧ if c = true then tb σ H1 Q else Q (.bl false) H1) : tAndV ta tb σ H Q := h
theorem x_notV (h : ta σ H fun x H1 => ∃ c, x = .bl c ∧ Q (.bl (!c)) H1) : tNotV ta σ H Q := h
theorem f_tst {b : Bool} {P : Bool → Hp → Prop} (hA : At K g Γ σ ((v, .dat (eB b)) :: τ) H) (k : At K g Γ σ τ H → P b H) : ∃ c, v = .bl c ∧ P c H := by
  obtain ⟨S, h⟩ := hA
  exact ⟨b, h.top.b, k ⟨S, h.pop⟩⟩
theorem f_pick {b : Bool} {m1 m2 : O ρ lam α} {P1 P2 : Prop} (hm : Out (if b then m1 else m2) N T B C E) (h1 : Out m1 N T B C E → P1) (h2 : Out m2 N T B C E → P2) : if b = true then P1 else P2 := by
  cases b with
  | true => exact h1 hm
  | false => exact h2 hm
theorem f_ifS {b : Bool} {m1 m2 : O ρ lam α} {t u z : TS} {D : Ends} (hm : Out (if b then m1 else m2) N T B C E) (h1 : Out m1 N T B C E → tSeq t z D σ H) (h2 : Out m2 N T B C E → tSeq u z D σ H) : if b = true then t { D with nx := z D } σ H else u { D with nx := z D } σ H := by
  cases b with
  | true => exact h1 hm
  | false => exact h2 hm
/-- ways that meet again: a value, a test -/
theorem f_join {m : O ρ lam γ} {f : γ → O ρ lam α} {P : Prop} (Gj : γ → List (Option Tm)) (zj : γ → Tm) (hm : Out (m.bind f) N T B C E) (k : ∀ c v H', At K g (Gj c) σ ((v, zj c) :: τ) H' → Out (f c) N T B C E → Q v H')
    (h : Out m (fun c => ∀ v H', At K g (Gj c) σ ((v, zj c) :: τ) H' → Q v H') T B C E → P) : P := h (hm.bind.imp (fun c q v H' h' => k c v H' h' q) (fun _ q => q) (fun _ q => q) (fun _ q => q) fun _ q => q)
theorem f_joinB {m : O ρ lam γ} {f : γ → O ρ lam α} {P : Prop} {Q : Bool → Hp → Prop} (Gj : γ → List (Option Tm)) (bj : γ → Bool) (hm : Out (m.bind f) N T B C E) (k : ∀ c H', At K g (Gj c) σ τ H' → Out (f c) N T B C E → Q (bj c) H')
    (h : Out m (fun c => ∀ H', At K g (Gj c) σ τ H' → Q (bj c) H') T B C E → P) : P := h (hm.bind.imp (fun c q H' h' => k c H' h' q) (fun _ q => q) (fun _ q => q) (fun _ q => q) fun _ q => q)
theorem f_lc2 {sT : Type} {e : β → VP} {js vs : List Nat} {ps : β → List VP} {enc : γ → VP} {wi : TI} {tg : TG} {tt : TT} {m : R (List β)} {f : sT → β → R (sT × Option γ)} {F : sT × List γ → O ρ lam α} (Gl : sT → List (Option Tm)) (s0 : sT) (hi : ITM K (Gl s0) wi m e) (ht : ∀ b, TJ K tg (e b) js (ps b)) (nd : js.Nodup)
    (hn : ∀ s, ∀ j ∈ js, (Gl s)[j]? = some none) (hv : ∀ s, ∀ j ∈ vs, (Gl s)[j]? = some none) (hsub : ∀ j ∈ js, j ∈ vs) (hl : LJ K Gl js ps enc tt te f) (hA : At K g (Gl s0) σ τ H)
    (hm : Out (bindR (bindR m fun xs => lcR f xs s0 []) F) N T B C E) (k : ∀ r v H', At K g (Gl r.1) σ ((v, oL enc r.2) :: τ) H' → Out (F r) N T B C E → Q v H') : tLc wi tg tt te vs σ H Q :=
  f_lc Gl s0 hi ht nd hn hv hsub hl hA (hm.bindR.imp (fun r q v H' h' => k r v H' h' q) fun _ q => q)
theorem At.box {p q : VP} (h : At K g Γ σ ((v, .dat p) :: τ) H) (hb : ∀ v S, Hd K p v S → Hd K q v S) : At K g Γ σ ((v, .dat q) :: τ) H := by
  obtain ⟨S, h⟩ := h
  exact ⟨S, h.pop.push (hb v S h.top)⟩
end

/-! ### data as PyData -/
def dN (_ : Unit) : PyData := .none
def dL {α : Type} (d : α → PyData) (xs : List α) : PyData := .list (xs.map d)
def dT {α : Type} (d : α → PyData) (xs : List α) : PyData := .tuple (xs.map d)
def dO {α : Type} (d : α → PyData) : Option α → PyData
  | none => .none
  | some a => d a
def dP1 {α : Type} (d : α → PyData) (x : α) : PyData := .tuple [d x]
def dP2 {α β : Type} (d : α → PyData) (f : β → PyData) (x : α × β) : PyData := .tuple [d x.1, f x.2]
def dP3 {α β γ : Type} (d : α → PyData) (f : β → PyData) (h : γ → PyData) (x : α × β × γ) : PyData := .tuple [d x.1, f x.2.1, h x.2.2]
def dP4 {α β γ δ : Type} (d : α → PyData) (f : β → PyData) (h : γ → PyData) (k : δ → PyData) (x : α × β × γ × δ) : PyData := .tuple [d x.1, f x.2.1, h x.2.2.1, k x.2.2.2]
/-- a kind's values are data -/
def Bx {α : Type} (e : α → VP) (d : α → PyData) : Prop := ∀ K x v S, Hd K (e x) v S → Dp K S v (d x)
section
variable {K : PySem.W.Frag} {S S' H : Hp} {α β γ δ : Type}
mutual
theorem Dp.mono (e : Same S S') : ∀ {d : PyData} {v : V}, Dp K S v d → Dp K S' v d
  | .none, _, h => by cases h; exact .non
  | .bool _, _, h => by cases h; exact .bl _
  | .int _, _, h => by cases h; exact .int _
  | .str _, _, h => by cases h; exact .str _
  | .list ds, _, h => by
    cases h with
    | lst hs ha => exact .lst (e.seq hs) (DpAll.mono e ha)
  | .tuple ds, _, h => by
    cases h with
    | tup hs ha => exact .tup (same_t e hs) (DpAll.mono e ha)
  | .dict _, _, h => by cases h
theorem DpAll.mono (e : Same S S') : ∀ {ds : List PyData} {vs : List V}, DpAll K S vs ds → DpAll K S' vs ds
  | [], _, h => by cases h; exact .nil
  | d :: ds, _, h => by
    cases h with
    | cons h1 h2 => exact .cons (Dp.mono e h1) (DpAll.mono e h2)
end
theorem bx_i : Bx eI PyData.int := fun K x v S h => by rw [h.i]; exact .int x
theorem bx_b : Bx eB PyData.bool := fun K x v S h => by rw [h.b]; exact .bl x
theorem bx_s : Bx eS PyData.str := fun K x v S h => by rw [h.s]; exact .str x
theorem bx_n : Bx eU dN := fun K x v S h => by have e : v = .non := Hd.n h; rw [e]; exact .non
theorem bx_d : Bx eD id := fun K x v S h => by
  obtain ⟨S0, e, q⟩ := h
  exact Dp.mono e q
theorem bx_o {e : α → VP} {d : α → PyData} (h : Bx e d) : Bx (eO e) (dO d) := fun K x v S q => by
  cases x with
  | none => have e : v = .non := Hd.n q; rw [e]; exact .non
  | some a => exact h K a v S q
theorem bx_all {e : α → VP} {d : α → PyData} (h : Bx e d) : ∀ {xs : List α} {vs : List V}, Hds K S (xs.map e) vs → DpAll K S vs (xs.map d)
  | [], _, .nil => .nil
  | x :: xs, _, .cons r t => .cons (h K x _ S r) (bx_all h t)
theorem bx_l {e : α → VP} {d : α → PyData} (h : Bx e d) : Bx (eL e) (dL d) := fun K x v S q => by
  obtain ⟨a, vs, rfl, h2, h3⟩ := Hd.l q
  exact .lst h2 (bx_all h h3)
theorem bx_t {e : α → VP} {d : α → PyData} (h : Bx e d) : Bx (eT e) (dT d) := fun K x v S q => by
  obtain ⟨a, vs, rfl, h2, h3⟩ := Hd.t q
  exact .tup h2 (bx_all h h3)
theorem bx_p1 {e : α → VP} {d : α → PyData} (h : Bx e d) : Bx (eP1 e) (dP1 d) := fun K x v S q => by
  obtain ⟨a, vs, rfl, h2, h3⟩ := Hd.t q
  cases h3 with
  | cons r1 t => cases t; exact .tup h2 (.cons (h K _ _ S r1) .nil)
theorem bx_p2 {e : α → VP} {d : α → PyData} {e2 : β → VP} {d2 : β → PyData} (h : Bx e d) (k : Bx e2 d2) : Bx (eP2 e e2) (dP2 d d2) := fun K x v S q => by
  obtain ⟨a, vs, rfl, h2, h3⟩ := Hd.t q
  cases h3 with
  | cons r1 t => cases t with
    | cons r2 t => cases t; exact .tup h2 (.cons (h K _ _ S r1) (.cons (k K _ _ S r2) .nil))
theorem bx_p3 {e : α → VP} {d : α → PyData} {e2 : β → VP} {d2 : β → PyData} {e3 : γ → VP} {d3 : γ → PyData} (h : Bx e d) (k : Bx e2 d2) (l : Bx e3 d3) : Bx (eP3 e e2 e3) (dP3 d d2 d3) := fun K x v S q => by
  obtain ⟨a, vs, rfl, h2, h3⟩ := Hd.t q
  cases h3 with
  | cons r1 t => cases t with
    | cons r2 t => cases t with
      | cons r3 t => cases t; exact .tup h2 (.cons (h K _ _ S r1) (.cons (k K _ _ S r2) (.cons (l K _ _ S r3) .nil)))
theorem bx_p4 {e : α → VP} {d : α → PyData} {e2 : β → VP} {d2 : β → PyData} {e3 : γ → VP} {d3 : γ → PyData} {e4 : δ → VP} {d4 : δ → PyData} (h : Bx e d) (k : Bx e2 d2) (l : Bx e3 d3) (m : Bx e4 d4) : Bx (eP4 e e2 e3 e4) (dP4 d d2 d3 d4) := fun K x v S q => by
  obtain ⟨a, vs, rfl, h2, h3⟩ := Hd.t q
  cases h3 with
  | cons r1 t => cases t with
    | cons r2 t => cases t with
      | cons r3 t => cases t with
        | cons r4 t => cases t; exact .tup h2 (.cons (h K _ _ S r1) (.cons (k K _ _ S r2) (.cons (l K _ _ S r3) (.cons (m K _ _ S r4) .nil))))
theorem Bx.hd {e : α → VP} {d : α → PyData} (h : Bx e d) {x : α} : ∀ v S, Hd K (e x) v S → Hd K (eD (d x)) v S := fun v S q => .of (h K x v S q)
theorem ev_box {Γ : List (Option Tm)} {te : TE} {e : α → VP} {d : α → PyData} {x : α} (h : Bx e d) (he : EV K Γ te (.dat (e x))) : EV K Γ te (.dat (eD (d x))) := fun g σ τ H Q hA k => he g σ τ H Q hA fun v H' h' => k v H' (h'.box h.hd)
/-! ### == of data -/
/-- == tells equality of a kind's values; they can be compared -/
structure EqK (d : α → PyData) (n : Nat) : Prop where
  eq : ∀ x y, PyData.eqv (d x) (d y) = true ↔ x = y
  lay : ∀ x, PyData.canLay0 (d x) = true
  dep : ∀ x, PyData.depth (d x) ≤ n
end
end Gv

set_option Elab.async false
set_option linter.all false
set_option maxRecDepth 100000
set_option maxHeartbeats 2000000
/-! Gv: ==, isinstance, data of any kind -/
namespace Gv
open PySem L2
section
variable {K : PySem.W.Frag} {Γ : List (Option Tm)} {α β γ δ : Type} {t u : Tm} {n m : Nat}
theorem eqvAll_c (x y : PyData) (xs ys : List PyData) : PyData.eqvAll (x :: xs) (y :: ys) = (PyData.eqv x y && PyData.eqvAll xs ys) := by rw [PyData.eqvAll]
theorem eqvAll_n : PyData.eqvAll [] [] = true := by rw [PyData.eqvAll]
theorem layAll_c (x : PyData) (xs : List PyData) : PyData.canLayAll0 (x :: xs) = (PyData.canLay0 x && PyData.canLayAll0 xs) := by rw [PyData.canLayAll0]
theorem layAll_n : PyData.canLayAll0 [] = true := by rw [PyData.canLayAll0]
theorem depAll_c (x : PyData) (xs : List PyData) : PyData.depthAll (x :: xs) = max (PyData.depth x) (PyData.depthAll xs) := by rw [PyData.depthAll]
theorem depAll_n : PyData.depthAll [] = 0 := by rw [PyData.depthAll]
structure NoN (d : α → PyData) : Prop where
  l : ∀ x, PyData.eqv .none (d x) = false
  r : ∀ x, PyData.eqv (d x) .none = false
theorem non_i : NoN PyData.int := ⟨fun x => by rw [PyData.eqv], fun x => by rw [PyData.eqv]⟩
theorem non_b : NoN PyData.bool := ⟨fun x => by rw [PyData.eqv], fun x => by rw [PyData.eqv]⟩
theorem non_s : NoN PyData.str := ⟨fun x => by rw [PyData.eqv], fun x => by rw [PyData.eqv]⟩
theorem non_l {d : α → PyData} : NoN (dL d) := ⟨fun x => by rw [dL, PyData.eqv], fun x => by rw [dL, PyData.eqv]⟩
theorem non_t {f : α → List PyData} : NoN (fun x => PyData.tuple (f x)) := ⟨fun x => by rw [PyData.eqv], fun x => by rw [PyData.eqv]⟩
theorem eq_i : EqK PyData.int 0 := ⟨fun x y => by rw [PyData.eqv]; exact beq_iff_eq, fun x => by rw [PyData.canLay0], fun x => by rw [PyData.depth]; exact Nat.le_refl 0⟩
theorem eq_b : EqK PyData.bool 0 := ⟨fun x y => by rw [PyData.eqv]; exact beq_iff_eq, fun x => by rw [PyData.canLay0], fun x => by rw [PyData.depth]; exact Nat.le_refl 0⟩
theorem eq_n : EqK dN 0 := ⟨fun x y => by rw [dN, PyData.eqv]; simp, fun x => by rw [dN, PyData.canLay0], fun x => by rw [dN, PyData.depth]; exact Nat.le_refl 0⟩
theorem eq_o {d : α → PyData} (h : EqK d n) (k : NoN d) : EqK (dO d) n := ⟨fun x y => by
  cases x with
  | none =>
    cases y with
    | none => simp [dO, PyData.eqv]
    | some b => simp [dO, k.l b]
  | some a =>
    cases y with
    | none => simp [dO, k.r a]
    | some b => simp [dO, h.eq a b], fun x => by
  cases x with
  | none => rw [dO, PyData.canLay0]
  | some a => exact h.lay a, fun x => by
  cases x with
  | none => rw [dO, PyData.depth]; exact Nat.zero_le n
  | some a => exact h.dep a⟩
theorem eq_all {d : α → PyData} (h : EqK d n) : (∀ xs ys : List α, PyData.eqvAll (xs.map d) (ys.map d) = true ↔ xs = ys) ∧ (∀ xs : List α, PyData.canLayAll0 (xs.map d) = true) ∧ ∀ xs : List α, PyData.depthAll (xs.map d) ≤ n := by
  refine ⟨fun xs => ?_, fun xs => ?_, fun xs => ?_⟩
  · induction xs with
    | nil =>
      intro ys
      cases ys with
      | nil => simp [eqvAll_n]
      | cons y ys => simp [PyData.eqvAll]
    | cons x xs ih =>
      intro ys
      cases ys with
      | nil => simp [PyData.eqvAll]
      | cons y ys => simp [eqvAll_c, h.eq x y, ih ys]
  · induction xs with
    | nil => exact layAll_n
    | cons x xs ih => rw [List.map_cons, layAll_c, h.lay x, ih]; rfl
  · induction xs with
    | nil => rw [List.map_nil, depAll_n]; exact Nat.zero_le n
    | cons x xs ih => rw [List.map_cons, depAll_c]; exact Nat.max_le.mpr ⟨h.dep x, ih⟩
theorem eq_l {d : α → PyData} (h : EqK d n) : EqK (dL d) (n + 1) := ⟨fun x y => by rw [dL, dL, PyData.eqv]; exact (eq_all h).1 x y, fun x => by rw [dL, PyData.canLay0]; exact (eq_all h).2.1 x, fun x => by rw [dL, PyData.depth]; exact Nat.succ_le_succ ((eq_all h).2.2 x)⟩
theorem eq_t {d : α → PyData} (h : EqK d n) : EqK (dT d) (n + 1) := ⟨fun x y => by rw [dT, dT, PyData.eqv]; exact (eq_all h).1 x y, fun x => by rw [dT, PyData.canLay0]; exact (eq_all h).2.1 x, fun x => by rw [dT, PyData.depth]; exact Nat.succ_le_succ ((eq_all h).2.2 x)⟩
theorem EqK.up {d : α → PyData} (h : EqK d n) (k : n ≤ m) : EqK d m := ⟨h.eq, h.lay, fun x => Nat.le_trans (h.dep x) k⟩
theorem eq_p1 {d : α → PyData} (h : EqK d n) : EqK (dP1 d) (n + 1) := ⟨fun x y => by simp [dP1, PyData.eqv, eqvAll_c, eqvAll_n, h.eq], fun x => by simp [dP1, PyData.canLay0, layAll_c, layAll_n, h.lay], fun x => by
  simp only [dP1, PyData.depth, depAll_c, depAll_n]; have := h.dep x; omega⟩
theorem eq_p2 {d : α → PyData} {d2 : β → PyData} (h : EqK d n) (k : EqK d2 m) : EqK (dP2 d d2) (n + m + 1) := ⟨fun x y => by
  obtain ⟨a, b⟩ := x
  obtain ⟨a', b'⟩ := y
  simp [dP2, PyData.eqv, eqvAll_c, eqvAll_n, h.eq, k.eq], fun x => by simp [dP2, PyData.canLay0, layAll_c, layAll_n, h.lay, k.lay], fun x => by
  simp only [dP2, PyData.depth, depAll_c, depAll_n]; have := h.dep x.1; have := k.dep x.2; omega⟩
theorem eq_p3 {d : α → PyData} {d2 : β → PyData} {d3 : γ → PyData} {l : Nat} (h : EqK d n) (k : EqK d2 m) (o : EqK d3 l) : EqK (dP3 d d2 d3) (n + m + l + 1) := ⟨fun x y => by
  obtain ⟨a, b, c⟩ := x
  obtain ⟨a', b', c'⟩ := y
  simp [dP3, PyData.eqv, eqvAll_c, eqvAll_n, h.eq, k.eq, o.eq], fun x => by simp [dP3, PyData.canLay0, layAll_c, layAll_n, h.lay, k.lay, o.lay], fun x => by
  simp only [dP3, PyData.depth, depAll_c, depAll_n]; have := h.dep x.1; have := k.dep x.2.1; have := o.dep x.2.2; omega⟩
theorem EqK.shaped {d : α → PyData} (h : EqK d n) (hn : n ≤ 64) (x : α) : SeqAt.shaped (d x) = true := by
  unfold SeqAt.shaped
  rw [h.lay x, decide_eq_true (Nat.le_trans (h.dep x) hn)]
  rfl
/-- what stands on the stack is the datum d -/
def DpT (K : PySem.W.Frag) (G : List (Option Tm)) (t : Tm) (d : PyData) : Prop := ∀ g S σ τ H v, AtS K g S G σ τ H → (v, t) ∈ τ → Dp K H v d
theorem DpT.dat {e : α → VP} {d : α → PyData} {x : α} (h : Bx e d) : DpT K Γ (.dat (e x)) (d x) := fun g S σ τ H v hA hm => Dp.mono hA.base.sh (h K x v S (hA.all _ (List.mem_append_right _ hm)))
theorem DpT.lst {e : α → VP} {d : α → PyData} {xs : List α} (h : Bx e d) (hl : IsL Γ t (xs.map e)) : DpT K Γ t (dL d xs) := fun g S σ τ H v hA hm => by
  obtain ⟨a, vs, rfl, h2, h3⟩ := hA.isL hm hl
  exact .lst h2 (DpAll.mono hA.base.sh (bx_all h h3))
theorem o2_eqD0 {a b : PyData} {c : Bool} (h1 : DpT K Γ t a) (h2 : DpT K Γ u b) (s1 : SeqAt.shaped a = true) (s2 : SeqAt.shaped b = true) (hc : PyData.eqv a b = c) : O2 K Γ (rEqD K) t u (.dat (eB c)) := fun g σ τ H x y Q ⟨S, h⟩ k =>
  ⟨a, b, h1 g S σ _ H x h (List.mem_cons_of_mem _ List.mem_cons_self), h2 g S σ _ H y h List.mem_cons_self, s1, s2, by rw [hc]; exact k _ H ⟨S, h.pop.pop.push (.of rfl)⟩⟩
theorem o2_neD0 {a b : PyData} {c : Bool} (h1 : DpT K Γ t a) (h2 : DpT K Γ u b) (s1 : SeqAt.shaped a = true) (s2 : SeqAt.shaped b = true) (hc : PyData.eqv a b = c) : O2 K Γ (rNeD K) t u (.dat (eB (!c))) := fun g σ τ H x y Q ⟨S, h⟩ k =>
  ⟨a, b, h1 g S σ _ H x h (List.mem_cons_of_mem _ List.mem_cons_self), h2 g S σ _ H y h List.mem_cons_self, s1, s2, by rw [hc]; exact k _ H ⟨S, h.pop.pop.push (.of rfl)⟩⟩
theorem EqK.dec [DecidableEq α] {d : α → PyData} (h : EqK d n) (x y : α) : PyData.eqv (d x) (d y) = decide (x = y) := by
  by_cases e : x = y
  · rw [decide_eq_true e]; exact (h.eq x y).mpr e
  · rw [decide_eq_false e]
    cases q : PyData.eqv (d x) (d y) with
    | false => rfl
    | true => exact absurd ((h.eq x y).mp q) e
theorem o2_eqD [DecidableEq α] {d : α → PyData} {x y : α} (h1 : DpT K Γ t (d x)) (h2 : DpT K Γ u (d y)) (h : EqK d n) (hn : n ≤ 64 := by decide) : O2 K Γ (rEqD K) t u (.dat (eB (decide (x = y)))) :=
  o2_eqD0 h1 h2 (h.shaped hn x) (h.shaped hn y) (h.dec x y)
theorem o2_neD [DecidableEq α] {d : α → PyData} {x y : α} (h1 : DpT K Γ t (d x)) (h2 : DpT K Γ u (d y)) (h : EqK d n) (hn : n ≤ 64 := by decide) : O2 K Γ (rNeD K) t u (.dat (eB (!decide (x = y)))) :=
  o2_neD0 h1 h2 (h.shaped hn x) (h.shaped hn y) (h.dec x y)
/-- with texts inside: they must be texts of proper signs -/
def eqR (a b : PyData) : R Bool := gd (SeqAt.shaped a && SeqAt.shaped b) (PyData.eqv a b)
theorem o2_eqDM {a b : PyData} (h1 : DpT K Γ t a) (h2 : DpT K Γ u b) : O2M K Γ (rEqD K) t u (eqR a b) (fun c => .dat (eB c)) := At.part2 fun h => o2_eqD0 h1 h2 (Bool.and_eq_true_iff.mp h).1 (Bool.and_eq_true_iff.mp h).2 rfl
theorem o2_neDM {a b : PyData} (h1 : DpT K Γ t a) (h2 : DpT K Γ u b) : O2M K Γ (rNeD K) t u (eqR a b) (fun c => .dat (eB (!c))) := At.part2 fun h => o2_neD0 h1 h2 (Bool.and_eq_true_iff.mp h).1 (Bool.and_eq_true_iff.mp h).2 rfl

/-! ### isinstance -/
def tyD : PyData → String
  | .none => "NoneType" | .bool _ => "bool" | .int _ => "int" | .str _ => "str" | .list _ => "list" | .tuple _ => "tuple" | .dict _ => "dict"
def isA (T : String) (d : PyData) : Bool := match T, d with
  | "int", .int _ => true | "int", .bool _ => true | "bool", .bool _ => true | "str", .str _ => true | "list", .list _ => true | "tuple", .tuple _ => true | _, _ => false
theorem Dp.tyx {H : Hp} {v : V} {d : PyData} (h : Dp K H v d) : TyX K H v (.type (tyD d)) := by
  cases h with
  | non => exact .base .non
  | bl b => exact .base (.bl b)
  | int i => exact .base (.int i)
  | str x => exact .base (.str x)
  | lst hs _ =>
    rcases hs with (h | ⟨o, h⟩) | ⟨o, its, n, h1, h2, _⟩
    · exact .base (.lst h)
    · exact .base (.frz h)
    · exact .kList h1 h2
  | tup hs _ =>
    rcases hs with (h | ⟨o, h⟩) | ⟨o, its, n, h1, h2, _⟩
    · exact .base (.tup h)
    · exact .fTuple h
    · exact .kTuple h1 h2
/-- the built-in classes that are asked for -/
inductive AskT : String → Prop
  | int : AskT "int" | bool : AskT "bool" | str : AskT "str" | list : AskT "list" | tuple : AskT "tuple"
theorem kit_isA {T : String} (a : AskT T) {H : Hp} {v : V} {d : PyData} (h : Dp K H v d) : PySem.W.kitOne K (.type (tyD d)) (.type T) = some (isA T d) := by
  have go : ∀ (s T : String) (r : Bool), kitB s T = some r → PySem.W.kitOne K (.type s) (.type T) = some r := fun s T r h => kit_ty h
  cases a <;> cases h <;> first
    | exact go "bool" _ true (by decide +kernel) | exact go "bool" _ false (by decide +kernel) | exact go "NoneType" _ false (by decide +kernel)
    | exact go "int" _ true (by decide +kernel) | exact go "int" _ false (by decide +kernel) | exact go "str" _ true (by decide +kernel) | exact go "str" _ false (by decide +kernel)
    | exact go "list" _ true (by decide +kernel) | exact go "list" _ false (by decide +kernel) | exact go "tuple" _ true (by decide +kernel) | exact go "tuple" _ false (by decide +kernel)
theorem o2_isi {T : String} {d : PyData} (a : AskT T) (h1 : DpT K Γ t d) : O2 K Γ (fun x y => rIsi K [x, y]) t (.dat (eV (.ty T))) (.dat (eB (isA T d))) := fun g σ τ H x y Q ⟨S, h⟩ k => by
  have hd := h1 g S σ _ H x h (List.mem_cons_of_mem _ List.mem_cons_self)
  have ey : y = .ty T := Hd.v h.top
  subst ey
  exact ⟨x, .ty T, .type (tyD d), .type T, isA T d, rfl, .ty T, (Dp.tyx hd), kit_isA a hd, k _ H ⟨S, h.pop.pop.push (.of rfl)⟩⟩
theorem ev_isi {ta : TE} {T : String} {d : PyData} (a : AskT T) (he : EV K Γ ta t) (h1 : DpT K Γ t d) : EV K Γ (tCB (rIsi K) (tCons ta (tCons (tC (.ty T)) tNil))) (.dat (eB (isA T d))) := ev_cb2 he ev_cv (o2_isi a h1)
theorem f_isiT {T1 T2 : String} {d : PyData} {g : Gh} {σ : St} {τ : List (V × Tm)} {H : Hp} {x : V} {Q : VK} (a1 : AskT T1) (a2 : AskT T2) (h1 : DpT K Γ t d) (hA : At K g Γ σ ((x, t) :: τ) H) (k : ∀ v H', At K g Γ σ ((v, .dat (eB (isA T1 d || isA T2 d))) :: τ) H' → Q v H') :
    tCons (tTup (tCons (tC (.ty T1)) (tCons (tC (.ty T2)) tNil))) tNil σ H (fun xs H2 => rIsiT K (x :: xs) H2 Q) := by
  obtain ⟨S, h⟩ := hA
  refine ⟨by show 2 ≤ sizeLine; decide, fun p hp => ?_⟩
  have h2 := h.lay (o := .tup [V.ty T1, V.ty T2]) hp
  have hd := h1 g _ σ _ _ x h2 List.mem_cons_self
  refine ⟨x, p, [.ty T1, .ty T2], .type (tyD d), [.type T1, .type T2], isA T1 d || isA T2 d, rfl, upd_same, .cons (.ty T1) (.cons (.ty T2) .nil), (Dp.tyx hd), ?_, k _ _ ⟨_, h2.pop.push (.of rfl)⟩⟩
  refine kitAny_cons (kit_isA a1 hd) (fun e => ?_) (fun e => by rw [e]; rfl)
  refine kitAny_cons (kit_isA a2 hd) (fun e2 => ?_) (fun e2 => by rw [e2, Bool.or_true])
  rw [e, e2]
  rfl
theorem ev_isiT {ta : TE} {T1 T2 : String} {d : PyData} (a1 : AskT T1) (a2 : AskT T2) (he : EV K Γ ta t) (h1 : DpT K Γ t d) : EV K Γ (tCB (rIsiT K) (tCons ta (tCons (tTup (tCons (tC (.ty T1)) (tCons (tC (.ty T2)) tNil))) tNil))) (.dat (eB (isA T1 d || isA T2 d))) :=
  fun g σ τ H Q hA k => he g σ τ H _ hA fun x H1 hA1 => f_isiT a1 a2 h1 hA1 k

/-! ### a datum of any kind, asked -/
def intD : PyData → R Int
  | .int i => .nx i
  | _ => .stuck
def lenD : PyData → R Int
  | .list xs => .nx (xs.length : Int)
  | .tuple xs => .nx (xs.length : Int)
  | _ => .stuck
def itemsD : PyData → R (List PyData)
  | .list xs => .nx xs
  | .tuple xs => .nx xs
  | _ => .stuck
def atD (d : PyData) (i : Int) : R PyData := bindR (itemsD d) fun xs => idx xs i
theorem hds_eD {S : Hp} : ∀ {vs : List V} {ds : List PyData}, DpAll K S vs ds → Hds K S (ds.map eD) vs
  | _, _, .nil => .nil
  | _, _, .cons h1 h2 => .cons (.of h1) (hds_eD h2)
theorem eD_list {ds : List PyData} {v : V} {S : Hp} (h : Hd K (eD (.list ds)) v S) : Hd K (eL eD ds) v S := by
  obtain ⟨S0, e, q⟩ := h
  have q : Dp K S0 v (.list ds) := q
  cases q with
  | lst hs ha => exact ⟨S0, e, _, _, rfl, hs, hds_eD ha⟩
theorem eD_tup {ds : List PyData} {v : V} {S : Hp} (h : Hd K (eD (.tuple ds)) v S) : Hd K (eT eD ds) v S := by
  obtain ⟨S0, e, q⟩ := h
  have q : Dp K S0 v (.tuple ds) := q
  cases q with
  | tup hs ha => exact ⟨S0, e, _, _, rfl, hs, hds_eD ha⟩
theorem eD_int {i : Int} {v : V} {S : Hp} (h : Hd K (eD (.int i)) v S) : Hd K (eI i) v S := by
  obtain ⟨S0, e, q⟩ := h
  have q : Dp K S0 v (.int i) := q
  cases q
  exact .of rfl
section
variable {ρ lam : Type} {g : Gh} {σ : St} {τ : List (V × Tm)} {H : Hp} {v : V} {P : Prop} {N : α → Prop} {T : ρ → Prop} {B C : lam → Prop} {E : Er → Prop}
/-- the datum on top is an int -/
theorem f_int {d : PyData} {f : Int → O ρ lam α} (hA : At K g Γ σ ((v, .dat (eD d)) :: τ) H) (hm : Out (bindR (intD d) f) N T B C E) (k : ∀ i, At K g Γ σ ((v, .dat (eI i)) :: τ) H → Out (f i) N T B C E → P) : P := by
  cases d with
  | int i => exact k i (hA.box fun v S q => eD_int q) hm
  | _ => exact hm.elim
/-- .. a list or tuple -/
theorem f_items {d : PyData} {f : List PyData → O ρ lam α} (hA : At K g Γ σ ((v, .dat (eD d)) :: τ) H) (hm : Out (bindR (itemsD d) f) N T B C E) (k : ∀ xs, (At K g Γ σ ((v, .dat (eL eD xs)) :: τ) H ∨ At K g Γ σ ((v, .dat (eT eD xs)) :: τ) H) → Out (f xs) N T B C E → P) : P := by
  cases d with
  | list xs => exact k xs (.inl (hA.box fun v S q => eD_list q)) hm
  | tuple xs => exact k xs (.inr (hA.box fun v S q => eD_tup q)) hm
  | _ => exact hm.elim
end
theorem o1_lenD {d : PyData} : O1M K Γ (fun x => rLen K [x]) (.dat (eD d)) (lenD d) (fun i => .dat (eI i)) := fun g σ τ H x Q E hA hm => by
  cases d with
  | list xs =>
    have := o1_lenT (K := K) (Γ := Γ) (t := .dat (eL eD xs)) xs eD (.l .dat)
    exact this g σ τ H x Q (hA.box fun v S q => eD_list q) hm
  | tuple xs =>
    have := o1_lenT (K := K) (Γ := Γ) (t := .dat (eT eD xs)) xs eD .t
    exact this g σ τ H x Q (hA.box fun v S q => eD_tup q) hm
  | _ => exact hm.elim
/-- d[i] of a list or tuple -/
def rIxQ (K : PySem.W.Frag) : R2 := fun x y H Q => rIxL K x y H Q ∨ rIxT K x y H Q
theorem ix_q {X : Cx} : IxR X (rIxQ X.K) := ix_list.or ix_tup
theorem o2_atD {d : PyData} {i : Int} : O2M K Γ (rIxQ K) (.dat (eD d)) (.dat (eI i)) (atD d i) (fun a => .dat (eD a)) := fun g σ τ H x y Q E hA hm => by
  obtain ⟨S, h⟩ := hA
  cases d with
  | list xs =>
    have h2 : At K g Γ σ ((y, .dat (eI i)) :: (x, .dat (eL eD xs)) :: τ) H := ⟨S, (h.pop.pop.push (eD_list h.pop.top)).push h.top⟩
    exact .inl (o2_idxL (K := K) (Γ := Γ) .dat g σ τ H x y Q E h2 hm)
  | tuple xs =>
    have h2 : At K g Γ σ ((y, .dat (eI i)) :: (x, .dat (eT eD xs)) :: τ) H := ⟨S, (h.pop.pop.push (eD_tup h.pop.top)).push h.top⟩
    exact .inr (o2_idxT (K := K) (Γ := Γ) g σ τ H x y Q E h2 hm)
  | _ => exact hm.elim
/-- a loop over a list or tuple -/
def iSeq (K : PySem.W.Frag) (te : TE) : TI := fun σ H Rk => iList K te σ H Rk ∨ iTup K te σ H Rk
theorem pi_seq {X : Cx} {tg l : Expr} {te : TE} (h : PE X l te) : PI X tg l (iSeq X.K te) := ⟨fun pins s σ H Rk I hw => by
  rcases hw with hw | hw
  · exact (pi_list h).run pins s σ H Rk I hw
  · exact (pi_tup h).run pins s σ H Rk I hw⟩
end
end Gv

set_option Elab.async false
set_option linter.all false
set_option maxRecDepth 100000
set_option maxHeartbeats 2000000
/-! Gv: joins, loops over what is told only on the way, unpacking -/
namespace Gv
open PySem L2
theorem bj_assoc {K : PySem.W.Frag} {ρ lam α : Type} {X : Fx ρ} {G : List (Option Tm)} {a b c : TS} {m : O ρ lam α} {n : α → List (Option Tm)} {bb cc : lam → List (Option Tm)} (h : BJ K X G (tSeq a (tSeq b c)) m n bb cc) : BJ K X G (tSeq (tSeq a b) c) m n bb cc := h
section
variable {K : PySem.W.Frag} {ρ lam α β γ : Type} {X : Fx ρ} {Γ : List (Option Tm)} {g : Gh} {H : Hp} {σ : St} {τ : List (V × Tm)} {v x y : V} {t u z : Tm} {i : Nat} {ta tb tc te : TE} {r r' : R2} {Q : VK} {N : α → Prop} {T : ρ → Prop} {B C : lam → Prop} {E : Er → Prop}
/-! ### steps -/
theorem x_chain (h : ta σ H fun x H1 => tb σ H1 fun y H2 => r x y H2 fun z H3 => ∃ k, z = .bl k ∧ (if k = true then tc σ H3 fun w H4 => r' y w H4 Q else Q (.bl false) H3)) : tChain r r' ta tb tc σ H Q := h
theorem f_chain {a b c : Int} {f f' : Int → Int → Bool} (h3 : EV K Γ tc (.dat (eI c))) (hA : At K g Γ σ ((y, .dat (eI b)) :: (x, .dat (eI a)) :: τ) H) (k : ∀ v H', At K g Γ σ ((v, .dat (eB (f a b && f' b c))) :: τ) H' → Q v H') :
    rI0 (fun i j => .bl (f i j)) x y H fun z H3 => ∃ k, z = .bl k ∧ (if k = true then tc σ H3 fun w H4 => rI0 (fun i j => .bl (f' i j)) y w H4 Q else Q (.bl false) H3) := by
  obtain ⟨S, hS⟩ := hA
  refine ⟨a, b, hS.pop.top.i, hS.top.i, f a b, rfl, ?_⟩
  cases e : f a b with
  | true =>
    rw [if_pos rfl]
    refine h3 g σ _ H _ ⟨S, hS⟩ fun w H3 ⟨S3, hA3⟩ => ⟨b, c, hA3.pop.top.i, hA3.top.i, ?_⟩
    refine k _ H3 ⟨S3, hA3.pop.pop.pop.push (.of ?_)⟩
    show V.bl _ = V.bl _
    rw [e, Bool.true_and]
  | false =>
    rw [if_neg Bool.false_ne_true]
    exact k _ H ⟨S, hS.pop.pop.push (.of (by show V.bl _ = V.bl _; rw [e, Bool.false_and]))⟩
theorem f_int1 {d : PyData} {f : Int → O ρ lam α} {P : Prop} {w : V} {s : Tm} (hA : At K g Γ σ ((w, s) :: (v, .dat (eD d)) :: τ) H) (hm : Out (bindR (intD d) f) N T B C E) (k : ∀ i, At K g Γ σ ((w, s) :: (v, .dat (eI i)) :: τ) H → Out (f i) N T B C E → P) : P := by
  cases d with
  | int i =>
    refine k i ?_ hm
    obtain ⟨S, h⟩ := hA
    refine ⟨S, ?_⟩
    have p : ((w, s) :: (v, Tm.dat (eD (PyData.int i))) :: τ).Perm ((v, Tm.dat (eD (PyData.int i))) :: (w, s) :: τ) := .swap _ _ _
    have h2 := h.perm p
    exact (h2.pop.push (eD_int h2.top)).perm (.swap _ _ _)
  | _ => exact hm.elim
theorem x_cbT {rr : List V → Hp → VK → Prop} {tl : TA} (h : ta σ H fun x H1 => tl σ H1 fun xs H2 => rr (x :: xs) H2 Q) : tCB rr (tCons ta tl) σ H Q := h
theorem x_ifB {u w : TS} {D : Ends} {tc : TT} (h : tc σ H fun b H1 => if b = true then u D σ H1 else w D σ H1) : tIfS tc u w D σ H := h
theorem x_xfm {a Ca : Addr} {d : Option Addr} {x : Er} {cn f : Str} {EC : Str → Addr} {F : PyData → O ρ lam α} (hC : EC cn = Ca) (hg : Γ[i]? = some (some (.dat (eX a d x)))) (hA : At K g Γ σ τ H)
    (hm : Out (bindR (fldR x cn f) F) N T B C E) (k : ∀ y v H', At K g Γ σ ((v, .dat (eD y)) :: τ) H' → Out (F y) N T B C E → Q v H') : tXf a (.ref (EC x.c)) d Ca f (tVar i) σ H Q :=
  x_xf hC hg hA (hm.bindR.imp (fun y q v H' h' => k y v H' h' q) fun _ q => q)
theorem f_joinV {te : TE} {m : O ρ lam γ} {f : γ → O ρ lam α} (Gj : γ → List (Option Tm)) (zj : γ → Tm) (hA0 : At K g Γ σ τ H) (hm : Out (m.bind f) N T B C E) (h : Out m (fun c => ∀ v H', At K g (Gj c) σ ((v, zj c) :: τ) H' → Q v H') T B C E → te σ H Q)
    (k : ∀ c v H', At K g (Gj c) σ ((v, zj c) :: τ) H' → Out (f c) N T B C E → Q v H') : te σ H Q := h (hm.bind.imp (fun c q v H' h' => k c v H' h' q) (fun _ q => q) (fun _ q => q) (fun _ q => q) fun _ q => q)
theorem f_joinT {tt : TT} {m : O ρ lam γ} {f : γ → O ρ lam α} {Q : Bool → Hp → Prop} (Gj : γ → List (Option Tm)) (bj : γ → Bool) (hA0 : At K g Γ σ τ H) (hm : Out (m.bind f) N T B C E) (h : Out m (fun c => ∀ H', At K g (Gj c) σ τ H' → Q (bj c) H') T B C E → tt σ H Q)
    (k : ∀ c H', At K g (Gj c) σ τ H' → Out (f c) N T B C E → Q (bj c) H') : tt σ H Q := h (hm.bind.imp (fun c q H' h' => k c H' h' q) (fun _ q => q) (fun _ q => q) (fun _ q => q) fun _ q => q)
theorem f_boolT {b : Bool} {P : Bool → Hp → Prop} (hA : At K g Γ σ ((v, .dat (eB b)) :: τ) H) (k : At K g Γ σ τ H → P b H) : ∃ c, v = .bl c ∧ P c H := f_tst hA k
theorem o2_isNN {v : Unit} : O2 K Γ rIsN (.dat (eU v)) (.dat eN) (.dat (eB true)) :=
  At.scal2 (fun S v w h1 h2 H Q k => ⟨h2.n, by rw [show v = V.non from Hd.n h1]; exact k⟩) fun _ => rfl
/-! ### more built-ins -/
def gcdI (a b : Int) : Int := ((Nat.gcd a.natAbs b.natAbs : Nat) : Int)
theorem o2_gcd {a b : Int} : O2 K Γ (fun x y => rGcd [x, y]) (.dat (eI a)) (.dat (eI b)) (.dat (eI (gcdI a b))) :=
  At.scal2 (fun S v w h1 h2 H Q k => ⟨a, b, by rw [h1.i, h2.i], k⟩) fun _ => rfl
theorem hds_ints {S : Hp} : ∀ {xs : List Int} {vs : List V}, Hds K S (xs.map eI) vs → vs = xs.map V.int
  | [], _, .nil => rfl
  | x :: xs, _, .cons r t => by rw [show _ = V.int x from r.i, hds_ints t]; rfl
theorem hds_bls {S : Hp} : ∀ {xs : List Bool} {vs : List V}, Hds K S (xs.map eB) vs → vs = xs.map V.bl
  | [], _, .nil => rfl
  | x :: xs, _, .cons r t => by rw [show _ = V.bl x from r.b, hds_bls t]; rfl
theorem o1_sum {xs : List Int} (hl : IsL Γ t (xs.map eI)) : O1 K Γ (fun x => rSum K [x]) t (.dat (eI xs.sum)) := fun g σ τ H x Q ⟨S, h⟩ k => by
  obtain ⟨a, vs, rfl, h2, h3⟩ := h.isL List.mem_cons_self hl
  rw [hds_ints h3] at h2
  exact ⟨a, xs, rfl, h2, k _ H ⟨S, h.pop.push (.of rfl)⟩⟩
theorem o1_all {xs : List Bool} (hl : IsL Γ t (xs.map eB)) : O1 K Γ (fun x => rAll K [x]) t (.dat (eB (xs.all id))) := fun g σ τ H x Q ⟨S, h⟩ k => by
  obtain ⟨a, vs, rfl, h2, h3⟩ := h.isL List.mem_cons_self hl
  rw [hds_bls h3] at h2
  exact ⟨a, xs, rfl, h2, k _ H ⟨S, h.pop.push (.of rfl)⟩⟩
theorem o1_any {xs : List Bool} (hl : IsL Γ t (xs.map eB)) : O1 K Γ (fun x => rAny K [x]) t (.dat (eB (xs.any id))) := fun g σ τ H x Q ⟨S, h⟩ k => by
  obtain ⟨a, vs, rfl, h2, h3⟩ := h.isL List.mem_cons_self hl
  rw [hds_bls h3] at h2
  exact ⟨a, xs, rfl, h2, k _ H ⟨S, h.pop.push (.of rfl)⟩⟩
/-! ### tuple * n -/
def repR {α : Type} (xs : List α) (k : Int) : R (List α) := gd (!xs.isEmpty && decide (2 ≤ k) && decide (k ≤ 1000) && decide (xs.length ≤ 1000)) (List.replicate k.toNat xs).flatten
theorem hds_rep {S : Hp} {ps : List VP} {vs : List V} (d : Hds K S ps vs) : ∀ n : Nat, Hds K S (List.replicate n ps).flatten (List.replicate n vs).flatten
  | 0 => .nil
  | n + 1 => by
    rw [List.replicate_succ, List.replicate_succ, List.flatten_cons, List.flatten_cons]
    exact d.append (hds_rep d n)
theorem rep_map (e : β → VP) (xs : List β) (n : Nat) : (List.replicate n xs).flatten.map e = (List.replicate n (xs.map e)).flatten := by
  rw [List.map_flatten, List.map_replicate]
theorem o2_repT {xs : List β} {e : β → VP} {k : Int} : O2M K Γ (rRepT K) (.dat (eT e xs)) (.dat (eI k)) (repR xs k) (fun c => .dat (eT e c)) := At.part2 fun hc => fun g σ τ H x y Q ⟨S, h⟩ kk => by
  simp only [Bool.and_eq_true, decide_eq_true_eq, Bool.not_eq_true'] at hc
  obtain ⟨⟨⟨h0, h1⟩, h2⟩, h3⟩ := hc
  obtain ⟨a, vs, rfl, k2, k3⟩ := Hd.t h.pop.top
  have hl : vs.length = xs.length := by rw [k3.len, List.length_map]
  refine ⟨a, k, vs, rfl, h.top.i, same_t h.base.sh k2, fun e0 => ?_, h1, h2, by omega, fun p hn => kk _ _ (h.pop.pop.newT hn ?_)⟩
  · subst e0
    cases xs with
    | nil => cases h0
    | cons _ _ => simp at hl
  · rw [rep_map]
    exact hds_rep k3 k.toNat
end
end Gv

set_option Elab.async false
set_option linter.all false
set_option maxRecDepth 100000
set_option maxHeartbeats 2000000
/-! Gv: what is walked, told on the way; unpacking of data -/
namespace Gv
open PySem L2
/-- the walk of xs at a place gives what Rk asks -/
def WK (K : PySem.W.Frag) (g : Gh) (Γ : List (Option Tm)) (σ : St) (τ : List (V × Tm)) {β : Type} (xs : List β) (e : β → VP) (Rk : It → Hp → Prop) : Prop :=
  ∀ (J : It) (Gd : Hp → Prop) (Y : Nat → Hp → V → Hp → Prop) (S1 H' : Hp), Walk J xs.length Gd Y → Same g.S0 S1 → (∀ b, g.F b ≠ none → g.S0 b = none → S1 b = none) → At K ⟨S1, g.F⟩ Γ σ τ H' →
      (∀ S2 H2, Base ⟨S1, g.F⟩ S2 H2 → Gd H2) →
      (∀ (i : Nat) (b : β) (x : V) (H1 H2 : Hp) (Γ' : List (Option Tm)) (σ' : St) (τ' : List (V × Tm)), xs[i]? = some b → Y i H1 x H2 → At K ⟨S1, g.F⟩ Γ' σ' τ' H1 → At K ⟨S1, g.F⟩ Γ' σ' ((x, .dat (e b)) :: τ') H2) → Rk J H'
section
variable {K : PySem.W.Frag} {ρ lam α β γ : Type} {X : Fx ρ} {Γ : List (Option Tm)} {g : Gh} {H : Hp} {σ : St} {τ : List (V × Tm)} {v x y : V} {t u z : Tm} {i : Nat} {ta tb tc te : TE} {r r' : R2} {Q : VK} {N : α → Prop} {T : ρ → Prop} {B C : lam → Prop} {E : Er → Prop}
  {e : β → VP} {xs : List β} {Rk : It → Hp → Prop}
theorem wk_list (hA : At K g Γ σ ((v, .dat (eL e xs)) :: τ) H) (hm : WK K g Γ σ τ xs e Rk) : ∃ a, v = .ref a ∧ (∃ xs, SqL K H a xs) ∧ Rk (Itl K a) H := by
  obtain ⟨S, h⟩ := hA
  obtain ⟨a, vs, rfl, h2, h3⟩ := Hd.l h.top
  have hl : vs.length = xs.length := by rw [h3.len, List.length_map]
  refine ⟨a, rfl, ⟨vs, h.base.sh.seq h2⟩, hm (Itl K a) (fun H => SqL K H a vs) (YAt vs) S H (by rw [← hl]; exact walk_list) h.base.s0 h.base.fs ⟨S, h.pop.reS⟩ (fun S2 H2 B => B.reS.seq h2) fun i b x H1 H2 Γ' σ' τ' hb hy ⟨S2, hA2⟩ => ?_⟩
  obtain ⟨rfl, hx⟩ := hy
  obtain ⟨w, w1, w2⟩ := h3.get (show (xs.map e)[i]? = some (e b) by rw [List.getElem?_map, hb]; rfl)
  rw [hx] at w1
  cases w1
  exact ⟨S2, hA2.push (w2.mono hA2.base.s0)⟩
theorem wk_tup (hA : At K g Γ σ ((v, .dat (eT e xs)) :: τ) H) (hm : WK K g Γ σ τ xs e Rk) : ∃ a, v = .ref a ∧ (∃ xs, SqT K H a xs) ∧ Rk (Itt K a) H := by
  obtain ⟨S, h⟩ := hA
  obtain ⟨a, vs, rfl, h2, h3⟩ := Hd.t h.top
  have hl : vs.length = xs.length := by rw [h3.len, List.length_map]
  refine ⟨a, rfl, ⟨vs, same_t h.base.sh h2⟩, hm (Itt K a) (fun H => SqT K H a vs) (YAt vs) S H (by rw [← hl]; exact walk_tup) h.base.s0 h.base.fs ⟨S, h.pop.reS⟩ (fun S2 H2 B => same_t B.reS h2) fun i b x H1 H2 Γ' σ' τ' hb hy ⟨S2, hA2⟩ => ?_⟩
  obtain ⟨rfl, hx⟩ := hy
  obtain ⟨w, w1, w2⟩ := h3.get (show (xs.map e)[i]? = some (e b) by rw [List.getElem?_map, hb]; rfl)
  rw [hx] at w1
  cases w1
  exact ⟨S2, hA2.push (w2.mono hA2.base.s0)⟩
theorem wk_rng {a b : Int} (hA : At K g Γ σ τ H) (hm : WK K g Γ σ τ (rangeL a b) eI Rk) : Rk (Itr a (b - a).toNat) H := by
  obtain ⟨S, h⟩ := hA
  refine hm (Itr a (b - a).toNat) (fun _ => True) (YFn fun i => .int (a + i)) S H (by rw [rangeL_len]; exact walk_range) h.base.s0 h.base.fs ⟨S, h.reS⟩ (fun _ _ _ => True.intro) fun i x v H1 H2 Γ' σ' τ' hx hy hA2 => ?_
  obtain ⟨rfl, rfl⟩ := hy
  exact hA2.scal fun _ => by rw [rangeL_get hx]; rfl
theorem f_rng1 {b : Int} {F : List Int → O ρ lam α} (hA : At K g Γ σ ((v, .dat (eI b)) :: τ) H) (hm : Out (bindR (rngR 0 b) F) N T B C E) (k : Out (F (rangeL 0 b)) N T B C E → WK K g Γ σ τ (rangeL 0 b) eI Rk) :
    ∃ j : Int, [v] = [V.int j] ∧ -(2 ^ 62) ≤ j ∧ j < 2 ^ 62 ∧ Rk (Itr 0 j.toNat) H := by
  obtain ⟨hc, q⟩ := rngR_gd hm.bindR
  simp only [Bool.and_eq_true, decide_eq_true_eq] at hc
  obtain ⟨S, h⟩ := id hA
  refine ⟨b, by rw [show v = V.int b from Hd.i h.top], by omega, by omega, ?_⟩
  have := wk_rng (a := 0) (b := b) hA.pop (k q)
  rwa [Int.sub_zero] at this
theorem f_rng2 {a b : Int} {F : List Int → O ρ lam α} (hA : At K g Γ σ ((y, .dat (eI b)) :: (x, .dat (eI a)) :: τ) H) (hm : Out (bindR (rngR a b) F) N T B C E) (k : Out (F (rangeL a b)) N T B C E → WK K g Γ σ τ (rangeL a b) eI Rk) :
    ∃ i j : Int, [x, y] = [V.int i, V.int j] ∧ (-(2 ^ 62) ≤ i ∧ i < 2 ^ 62 ∧ -(2 ^ 62) ≤ j ∧ j < 2 ^ 62) ∧ Rk (Itr i (j - i).toNat) H := by
  obtain ⟨hc, q⟩ := rngR_gd hm.bindR
  simp only [Bool.and_eq_true, decide_eq_true_eq] at hc
  obtain ⟨S, h⟩ := id hA
  exact ⟨a, b, by rw [show y = V.int b from Hd.i h.top, show x = V.int a from Hd.i h.pop.top], by omega, wk_rng (a := a) (b := b) hA.pop.pop (k q)⟩
/-! ### a datum that is walked: list or tuple -/
def iSeqV (K : PySem.W.Frag) (tl : TE) : TI := fun σ H R => tl σ H fun v H1 => (∃ a, v = .ref a ∧ (∃ xs, SqL K H1 a xs) ∧ R (Itl K a) H1) ∨ (∃ a, v = .ref a ∧ (∃ xs, SqT K H1 a xs) ∧ R (Itt K a) H1)
theorem wk_seq {d : PyData} {F : List PyData → O ρ lam α} (hA : At K g Γ σ ((v, .dat (eD d)) :: τ) H) (hm : Out (bindR (itemsD d) F) N T B C E) (k : ∀ xs, Out (F xs) N T B C E → WK K g Γ σ τ xs eD Rk) :
    (∃ a, v = .ref a ∧ (∃ xs, SqL K H a xs) ∧ Rk (Itl K a) H) ∨ (∃ a, v = .ref a ∧ (∃ xs, SqT K H a xs) ∧ Rk (Itt K a) H) :=
  f_items hA hm fun xs h hm => h.elim (fun h => .inl (wk_list h (k xs hm))) fun h => .inr (wk_tup h (k xs hm))
section
variable {Xc : Cx}
open PyProof.Rows in
theorem pi_seqV {tg l : Expr} {tl : TE} (hl : PE Xc l tl) : PI Xc tg l (iSeqV Xc.K tl) := by
  refine ⟨fun pins s σ H R I h => thn (hl.run pins s σ H _ I h) fun w s1 hw => ?_⟩
  obtain ⟨x, H1, I1, r1, q1⟩ := hw
  have fresh : ∀ b ∈ [s1.heap.objs.size], FpOk Xc pins H1 b := fun b hb => by
    have eb : b = s1.heap.objs.size := by simpa using hb
    rw [eb]
    exact I1.fpOk (Nat.le_refl _) (I1.hok.fresh (Nat.le_refl _))
  rcases q1 with ⟨a, ea, ⟨ws, hs⟩, q⟩ | ⟨a, ea, ⟨ws, hs⟩, q⟩
  · rw [ea] at r1
    cases r1
    obtain ⟨its, _, pl, _⟩ := I1.list hs
    exact wpAny_pyIter_list pl.isList ⟨s1.heap.objs.size, [s1.heap.objs.size], _, _, H1, rfl, I1.kept (t' := s1.toks) fun b o hb => Heap.get?_push_of_some _ hb, turn_list a _, ⟨_, Heap.get?_push_size _ rfl, rfl, rfl⟩, fresh, q⟩
  · rw [ea] at r1
    cases r1
    obtain ⟨its, _, pt, _⟩ := I1.tuple hs
    exact wpAny_pyIter_tuple pt ⟨s1.heap.objs.size, [s1.heap.objs.size], _, _, H1, rfl, I1.kept (t' := s1.toks) fun b o hb => Heap.get?_push_of_some _ hb, turn_tuple a _, ⟨_, Heap.get?_push_size _ rfl, rfl, rfl⟩, fresh, q⟩
end
/-! ### for -/
def FR (tg : TG) (tb u : TS) (D : Ends) (σ : St) : It → Hp → Prop := fun J H1 => ∃ W : Nat → Nat → St → Hp → Prop, (∃ m, W 0 m σ H1) ∧ ∀ i m σ H, W i m σ H →
  (J.stop i H ∧ u D σ H) ∨ (J.go i H ∧ ∃ N : St → Hp → Prop, (∀ σ' H', N σ' H' → ∃ m', m' < m ∧ W (i + 1) m' σ' H') ∧ ∀ x H', J.yld i H x H' → tg x σ H' fun σ2 H2 => tb { D with nx := N, ct := N, bk := u D } σ2 H2)
variable {tg : TG} {tb u : TS} {D : Ends} {wi : TI} {tl : TE}
theorem x_for (h : wi σ H (FR tg tb u D σ)) : tSeq (tFor wi tg tb) u D σ H := h
theorem x_forL (h : tl σ H fun v H1 => ∃ a, v = .ref a ∧ (∃ xs, SqL K H1 a xs) ∧ FR tg tb u D σ (Itl K a) H1) : tSeq (tFor (iList K tl) tg tb) u D σ H := h
theorem x_forT (h : tl σ H fun v H1 => ∃ a, v = .ref a ∧ (∃ xs, SqT K H1 a xs) ∧ FR tg tb u D σ (Itt K a) H1) : tSeq (tFor (iTup K tl) tg tb) u D σ H := h
theorem x_forD (h : tl σ H fun v H1 => (∃ a, v = .ref a ∧ (∃ xs, SqL K H1 a xs) ∧ FR tg tb u D σ (Itl K a) H1) ∨ (∃ a, v = .ref a ∧ (∃ xs, SqT K H1 a xs) ∧ FR tg tb u D σ (Itt K a) H1)) : tSeq (tFor (iSeqV K tl) tg tb) u D σ H := h
theorem x_forR1 (h : tl σ H fun v H1 => ∃ j : Int, [v] = [V.int j] ∧ -(2 ^ 62) ≤ j ∧ j < 2 ^ 62 ∧ FR tg tb u D σ (Itr 0 j.toNat) H1) : tSeq (tFor (iRng1 (tCons tl tNil)) tg tb) u D σ H := h
theorem x_forR2 (h : ta σ H fun x H1 => tl σ H1 fun y H2 => ∃ i j : Int, [x, y] = [V.int i, V.int j] ∧ (-(2 ^ 62) ≤ i ∧ i < 2 ^ 62 ∧ -(2 ^ 62) ≤ j ∧ j < 2 ^ 62) ∧ FR tg tb u D σ (Itr i (j - i).toNat) H2) : tSeq (tFor (iRng2 (tCons ta (tCons tl tNil))) tg tb) u D σ H := h
/-- a for whose items are told; hb: the target and the body -/
theorem f_for {sT : Type} {f : sT → β → O ρ sT sT} {s0 : sT} {k : sT → O ρ lam α} {n : α → List (Option Tm)} {b c : lam → List (Option Tm)} (Gl : sT → List (Option Tm)) (h0 : Le (Gl s0) Γ)
    (hm : Out ((forO f xs s0).bind k) (NxW K g n D.nx) (RtW K g X D.rt) (NxW K g b D.bk) (NxW K g c D.ct) (ErW K g X))
    (hb : ∀ s y (g : Gh) (σ : St) (H : Hp) (D : Ends) (x : V), At K g (Gl s) σ [(x, .dat (e y))] H → Out (f s y) (NxW K g Gl D.nx) (RtW K g X D.rt) (NxW K g Gl D.bk) (NxW K g Gl D.ct) (ErW K g X) → tg x σ H (tb D))
    (hr : ∀ s, BJ K X (Gl s) u (k s) n b c) : WK K g Γ σ [] xs e (FR tg tb u D σ) := fun J Gd Y S1 H' w es ef hA' hG hY => by
  have q2 := hm.bind
  refine for_it (D := { D with nx := u D }) w (fun i σ H => ∃ s, At K ⟨S1, g.F⟩ (Gl s) σ [] H ∧ Out (forO f (xs.drop i) s : O ρ lam sT) (fun s' => ∀ σ' H', At K ⟨S1, g.F⟩ (Gl s') σ' [] H' → u D σ' H') (RtW K ⟨S1, g.F⟩ X D.rt) (fun l => NxW K g b D.bk l) (fun l => NxW K g c D.ct l) (ErW K ⟨S1, g.F⟩ X))
    ⟨s0, hA'.weak h0, ?_⟩ (fun i σ H _ ⟨s, ⟨S2, h2⟩, _⟩ => hG S2 H h2.base) ?_ ?_
  · rw [List.drop_zero]
    refine q2.imp (fun s' q3 σ' H' h' => hr s' g σ' H' D (h'.unS es ef) q3) (fun r q3 v H' σ' h' => q3 v H' σ' (h'.unS es ef)) (fun _ q3 => q3) (fun _ q3 => q3) (fun x q3 => q3.unS es ef)
  · rintro i x σ H H' hi ⟨s, hA2, q3⟩ hy
    have hx : xs[i]? = some xs[i] := List.getElem?_eq_getElem hi
    rw [List.drop_eq_getElem_cons hi] at q3
    have q4 := forO_out q3
    exact hb s xs[i] ⟨S1, g.F⟩ σ H' _ x (hY i _ x H H' _ _ _ hx hy hA2) (q4.imp (fun s' q5 σ' H' h' => ⟨s', h', q5⟩) (fun _ q5 => q5) (fun s' q5 σ' H' h' => q5 σ' H' h') (fun s' q5 σ' H' h' => ⟨s', h', q5⟩) fun _ q5 => q5)
  · rintro σ H ⟨s, hA2, q3⟩
    rw [List.drop_length] at q3
    exact q3 σ H hA2
/-- a target whose parts are told -/
theorem hb_of {sT : Type} {f : sT → β → O ρ sT sT} {js : List Nat} {ps : β → List VP} {Gl : sT → List (Option Tm)} (ht : ∀ b, TJ K tg (e b) js (ps b)) (hj : ∀ s, ∀ j ∈ js, j < (Gl s).length)
    (hb : ∀ s b, BJ K X (setG (Gl s) js (ps b)) tb (f s b) Gl Gl Gl) : ∀ s y (g : Gh) (σ : St) (H : Hp) (D : Ends) (x : V), At K g (Gl s) σ [(x, .dat (e y))] H → Out (f s y) (NxW K g Gl D.nx) (RtW K g X D.rt) (NxW K g Gl D.bk) (NxW K g Gl D.ct) (ErW K g X) → tg x σ H (tb D) :=
  fun s y g σ H D x hA hm => (ht y).2 g (Gl s) σ [] H x _ (hj s) (fun y hy => (by cases hy)) hA fun vs H2 _ hA3 => hb s y g _ H2 _ hA3 hm
/-! ### a while's test that is no plain one -/
theorem cj_fwd {sT : Type} {tt : TT} {cn : sT → R (sT × Bool)} {Gl : sT → List (Option Tm)} (h : ∀ s g σ H (Q : Bool → Hp → Prop), At K g (Gl s) σ [] H → Out (cn s) (fun sb => ∀ H', At K g (Gl sb.1) σ [] H' → Q sb.2 H') (fun _ => True) (fun _ => True) (fun _ => True) (ErW K g X) → tt σ H Q) :
    ∀ s g σ H (Q : Bool → Hp → Prop), At K g (Gl s) σ [] H → OutR (cn s) (fun sb => ∀ H', At K g (Gl sb.1) σ [] H' → Q sb.2 H') (ErW K g X) → tt σ H Q := fun s g σ H Q hA hm => h s g σ H Q hA hm.out
/-! ### comprehensions -/
def LR (tg : TG) (tt : TT) (te : TE) (vs : List Nat) (σ : St) (Q : VK) : It → Hp → Prop := fun J H1 => ∀ D, H1 D = none → ∃ W : Nat → Nat → Hp → Prop, (∃ m, W 0 m (upd H1 D (.lst []))) ∧ ∀ i m H, W i m H →
  (J.stop i H ∧ Q (.ref D) H) ∨ (J.go i H ∧ ∃ Nx : Hp → Prop, (∀ H', Nx H' → ∃ m', m' < m ∧ W (i + 1) m' H') ∧ ∀ x H', J.yld i H x H' → tg x (wipe σ vs) H' fun σ2 H2 => wipe σ2 vs = wipe σ vs ∧ tt σ2 H2 fun b H3 =>
    if b = true then te σ2 H3 fun y H4 => ∃ acc, H4 D = some (.lst acc) ∧ acc.length < sizeLine ∧ Nx (upd H4 D (.lst (acc ++ [y]))) else Nx H3)
variable {tt : TT} {vs : List Nat}
theorem x_lc (h : wi σ H (LR tg tt te vs σ Q)) : tLc wi tg tt te vs σ H Q := h
theorem x_lcL (h : tl σ H fun v H1 => ∃ a, v = .ref a ∧ (∃ xs, SqL K H1 a xs) ∧ LR tg tt te vs σ Q (Itl K a) H1) : tLc (iList K tl) tg tt te vs σ H Q := h
theorem x_lcT (h : tl σ H fun v H1 => ∃ a, v = .ref a ∧ (∃ xs, SqT K H1 a xs) ∧ LR tg tt te vs σ Q (Itt K a) H1) : tLc (iTup K tl) tg tt te vs σ H Q := h
theorem x_lcD (h : tl σ H fun v H1 => (∃ a, v = .ref a ∧ (∃ xs, SqL K H1 a xs) ∧ LR tg tt te vs σ Q (Itl K a) H1) ∨ (∃ a, v = .ref a ∧ (∃ xs, SqT K H1 a xs) ∧ LR tg tt te vs σ Q (Itt K a) H1)) : tLc (iSeqV K tl) tg tt te vs σ H Q := h
theorem x_lcR1 (h : tl σ H fun v H1 => ∃ j : Int, [v] = [V.int j] ∧ -(2 ^ 62) ≤ j ∧ j < 2 ^ 62 ∧ LR tg tt te vs σ Q (Itr 0 j.toNat) H1) : tLc (iRng1 (tCons tl tNil)) tg tt te vs σ H Q := h
theorem x_lcR2 (h : ta σ H fun x H1 => tl σ H1 fun y H2 => ∃ i j : Int, [x, y] = [V.int i, V.int j] ∧ (-(2 ^ 62) ≤ i ∧ i < 2 ^ 62 ∧ -(2 ^ 62) ≤ j ∧ j < 2 ^ 62) ∧ LR tg tt te vs σ Q (Itr i (j - i).toNat) H2) : tLc (iRng2 (tCons ta (tCons tl tNil))) tg tt te vs σ H Q := h
theorem f_lcW {sT : Type} {js : List Nat} {ps : β → List VP} {enc : γ → VP} {f : sT → β → R (sT × Option γ)} {F : sT × List γ → O ρ lam α} (Gl : sT → List (Option Tm)) (s0 : sT) (ht : ∀ b, TJ K tg (e b) js (ps b)) (nd : js.Nodup)
    (hn : ∀ s, ∀ j ∈ js, (Gl s)[j]? = some none) (hv : ∀ s, ∀ j ∈ vs, (Gl s)[j]? = some none) (hsub : ∀ j ∈ js, j ∈ vs) (hl : LJ K Gl js ps enc tt te f)
    (hm : Out (bindR (lcR f xs s0 []) F) N T B C E) (k : ∀ r v H', At K g (Gl r.1) σ ((v, oL enc r.2) :: τ) H' → Out (F r) N T B C E → Q v H') : WK K g (Gl s0) σ τ xs e (LR tg tt te vs σ Q) := fun J Gd Y S1 H' w es ef hA' hG hY => by
  have hm2 : OutR (lcR f xs s0 []) (fun r => ∀ v H', At K g (Gl r.1) σ ((v, oL enc r.2) :: τ) H' → Q v H') E := hm.bindR.imp (fun r q v H' h' => k r v H' h' q) fun _ q => q
  have hi : ∀ Rk : It → Hp → Prop, Rk = LR tg tt te vs σ Q → Rk J H' := fun Rk eR => by
    subst eR
    have two : tLc (fun _ _ R => R J H') tg tt te vs σ H' Q := by
      show ∀ D, H' D = none → _
      intro D hD
      refine lc_it w (fun i H => ∃ s acc, At K ⟨S1, g.F⟩ (Gl s) σ ((.ref D, .own (some D) (.lst (acc.map enc))) :: τ) H ∧ OutR (lcR f (xs.drop i) s acc) (fun r => ∀ v H', At K g (Gl r.1) σ ((v, oL enc r.2) :: τ) H' → Q v H') E)
        ⟨s0, [], ?_, by rw [List.drop_zero]; exact hm2⟩ (fun i H _ ⟨s, acc, ⟨S2, h2⟩, _⟩ => hG S2 H h2.base) ?_ ?_
      · obtain ⟨S, h⟩ := hA'
        exact ⟨S, h.freshA (fun b z => (Option.some.inj z).symm) hD ⟨[], rfl, .nil⟩⟩
      · rintro i x H H' hi ⟨s, acc, hA2, q3⟩ hy
        have hx : xs[i]? = some xs[i] := List.getElem?_eq_getElem hi
        rw [List.drop_eq_getElem_cons hi] at q3
        have q4 := lcR_out q3
        have hA3 : At K ⟨S1, g.F⟩ (Gl s) (wipe σ vs) ((.ref D, .own (some D) (.lst (acc.map enc))) :: τ) H := by
          obtain ⟨S, h⟩ := hA2
          exact ⟨S, h.slots (fun j t ej => wipe_get fun z => by rw [hv s j z] at ej; cases ej) (by rw [wipe_length]; exact h.len)⟩
        have hal : ∀ y ∈ (V.ref D, Tm.own (some D) (.lst (acc.map enc))) :: τ, ∀ k, y.2 = Tm.als k → k ∉ js := fun y hy k ek hk => by
          obtain ⟨S, h⟩ := hA2
          obtain ⟨oa, c, q⟩ := h.al y hy k ek
          rw [hn s k hk] at q; cases q
        refine (ht xs[i]).2 ⟨S1, g.F⟩ (Gl s) (wipe σ vs) _ H' x _ (fun j hj => (List.getElem?_eq_some_iff.mp (hn s j hj)).1) hal (hY i _ x H H' _ _ _ hx hy hA3) fun ws H2 _ hA4 => ⟨wipe_set hsub, ?_⟩
        have back : ∀ {s' : sT} {τ' : List (V × Tm)} {H3 : Hp}, At K ⟨S1, g.F⟩ (setG (Gl s') js (ps xs[i])) (setS (wipe σ vs) js ws) τ' H3 → At K ⟨S1, g.F⟩ (Gl s') σ τ' H3 := fun {s' τ' H3} ⟨S, h⟩ => by
          have h5 := forget nd (hn s') h
          have hlen : (Gl s').length ≤ σ.length := by
            have := h5.len
            rw [setS_len, wipe_length] at this
            exact this
          exact ⟨S, h5.slots (fun j t ej => by
            have n1 : j ∉ js := fun z => by rw [hn s' j z] at ej; cases ej
            have n2 : j ∉ vs := fun z => by rw [hv s' j z] at ej; cases ej
            rw [setS_get n1, wipe_get n2]) hlen⟩
        have := hl s xs[i] ⟨S1, g.F⟩ (setS (wipe σ vs) js ws) _ H2 (fun o H4 => match o with
          | none => ∃ s acc, At K ⟨S1, g.F⟩ (Gl s) σ ((.ref D, .own (some D) (.lst (acc.map enc))) :: τ) H4 ∧ OutR (lcR f (xs.drop (i + 1)) s acc) (fun r => ∀ v H', At K g (Gl r.1) σ ((v, oL enc r.2) :: τ) H' → Q v H') E
          | some y => ∃ acc, H4 D = some (.lst acc) ∧ acc.length < sizeLine ∧ ∃ s acc', At K ⟨S1, g.F⟩ (Gl s) σ ((.ref D, .own (some D) (.lst (acc'.map enc))) :: τ) (upd H4 D (.lst (acc ++ [y]))) ∧ OutR (lcR f (xs.drop (i + 1)) s acc') (fun r => ∀ v H', At K g (Gl r.1) σ ((v, oL enc r.2) :: τ) H' → Q v H') E) hA4 (q4.imp (fun r q5 => ?_) fun _ q5 => q5)
        · exact this
        · obtain ⟨s1, o⟩ := r
          cases o with
          | none => exact fun H4 h4 => ⟨s1, acc, back h4, q5⟩
          | some y =>
            intro v H4 h4
            obtain ⟨q6, q7⟩ := q5
            obtain ⟨S, h5⟩ := back h4
            have hv5 : Hd K (enc y) v S := h5.top
            obtain ⟨a, o, e1, e2, _, _, e3, vs3, rfl, d3⟩ := h5.pop.top
            cases e1
            obtain ⟨o2, _, _, h6⟩ := h5.pop.writeT (c' := .lst ((acc ++ [y]).map enc)) (o' := .lst (vs3 ++ [v])) ⟨_, rfl, by rw [List.map_append]; exact d3.append (.cons hv5 .nil)⟩
            exact ⟨vs3, e3, by rw [d3.len, List.length_map]; exact lt_line q6, s1, acc ++ [y], ⟨S, h6⟩, q7⟩
      · rintro H ⟨s, acc, hA2, q3⟩
        rw [List.drop_length] at q3
        obtain ⟨S, h⟩ := hA2
        exact q3 (.ref D) H (At.unS ⟨S, h.oaNone⟩ es ef)
    exact two
  exact hi _ rfl
/-- what an item gives, told on the way -/
theorem lj_fwd {sT : Type} {js : List Nat} {ps : β → List VP} {enc : γ → VP} {f : sT → β → R (sT × Option γ)} {Gl : sT → List (Option Tm)}
    (h : ∀ s b g σ τ H (Q : VK) (Qn : Hp → Prop), At K g (setG (Gl s) js (ps b)) σ τ H → Out (f s b) (fun r => match r.2 with
      | none => ∀ H', At K g (setG (Gl r.1) js (ps b)) σ τ H' → Qn H'
      | some y => ∀ v H', At K g (setG (Gl r.1) js (ps b)) σ ((v, .dat (enc y)) :: τ) H' → Q v H') (fun _ => True) (fun _ => True) (fun _ => True) (fun _ => False) → tt σ H fun b H3 => if b = true then te σ H3 Q else Qn H3) : LJ K Gl js ps enc tt te f :=
  fun s b g σ τ H Q hA hm => h s b g σ τ H (fun y H4 => Q (some y) H4) (Q none) hA (hm.out.imp (fun r q => by
    cases e : r.2 with
    | none => rw [e] at q; exact q
    | some y => rw [e] at q; exact q) (fun _ q => q) (fun _ q => q) (fun _ q => q) fun _ q => q)
theorem x_yes {P : Hp → Prop} {Q' : Hp → Prop} (h : P H) : tYes σ H fun b H3 => if b = true then P H3 else Q' H3 := by
  show if true = true then P H else Q' H
  rw [if_pos rfl]
  exact h
/-! ### unpacking -/
/-- a list or a tuple of these -/
def eW (ps : List VP) : VP := fun K v S => rL ps K v S ∨ rT ps K v S
theorem eW_hd {S : Hp} {ps : List VP} (h : Hd K (eW ps) v S) : Hd K (rL ps) v S ∨ Hd K (rT ps) v S := by
  obtain ⟨S0, e, q⟩ := h
  exact q.elim (fun q => .inl ⟨S0, e, q⟩) fun q => .inr ⟨S0, e, q⟩
theorem eW_l {S : Hp} {ps : List VP} (h : Hd K (rL ps) v S) : Hd K (eW ps) v S := by
  obtain ⟨S0, e, q⟩ := h
  exact ⟨S0, e, .inl q⟩
theorem eW_t {S : Hp} {ps : List VP} (h : Hd K (rT ps) v S) : Hd K (eW ps) v S := by
  obtain ⟨S0, e, q⟩ := h
  exact ⟨S0, e, .inr q⟩
def unp2 (d : PyData) : R (PyData × PyData) := bindR (itemsD d) fun xs => match xs with
  | [a, b] => .nx (a, b)
  | _ => .stuck
def unp3 (d : PyData) : R (PyData × PyData × PyData) := bindR (itemsD d) fun xs => match xs with
  | [a, b, c] => .nx (a, b, c)
  | _ => .stuck
theorem unp3_out {d : PyData} {f : PyData × PyData × PyData → O ρ lam α} (h : Out (bindR (unp3 d) f) N T B C E) : ∃ a b c, (d = .list [a, b, c] ∨ d = .tuple [a, b, c]) ∧ Out (f (a, b, c)) N T B C E := by
  cases d with
  | list xs =>
    match xs, h with
    | [a, b, c], h => exact ⟨a, b, c, .inl rfl, h⟩
    | [], h => exact h.elim
    | [_], h => exact h.elim
    | [_, _], h => exact h.elim
    | _ :: _ :: _ :: _ :: _, h => exact h.elim
  | tuple xs =>
    match xs, h with
    | [a, b, c], h => exact ⟨a, b, c, .inr rfl, h⟩
    | [], h => exact h.elim
    | [_], h => exact h.elim
    | [_, _], h => exact h.elim
    | _ :: _ :: _ :: _ :: _, h => exact h.elim
  | _ => exact h.elim
theorem f_unp3 {d : PyData} {f : PyData × PyData × PyData → O ρ lam α} {P : Prop} (hA : At K g Γ σ ((v, .dat (eD d)) :: τ) H) (hm : Out (bindR (unp3 d) f) N T B C E) (k : ∀ q, At K g Γ σ ((v, .dat (eW [eD q.1, eD q.2.1, eD q.2.2])) :: τ) H → Out (f q) N T B C E → P) : P := by
  obtain ⟨a, b, c, h | h, q⟩ := unp3_out hm
  · subst h
    exact k (a, b, c) (hA.box fun v S q => eW_l (eD_list q)) q
  · subst h
    exact k (a, b, c) (hA.box fun v S q => eW_t (eD_tup q)) q
theorem hds_set {S : Hp} {p q : VP} {ps : List VP} : ∀ {ps : List VP} {vs : List V} (j : Nat), Hds K S ps vs → (∀ w, ps[j]? = some p → Hd K p w S → Hd K q w S) → ps[j]? = some p → Hds K S (ps.set j q) vs
  | _, _, 0, .cons r t, h, e => .cons (h _ e (by cases e; exact r)) t
  | _, _, j + 1, .cons r t, h, e => .cons r (hds_set (ps := ps) j t (fun w e' => h w (by simpa using e')) (by simpa using e))
theorem At.boxW {p q : VP} {ps : List VP} (j : Nat) (e : ps[j]? = some p) (hb : ∀ w S, Hd K p w S → Hd K q w S) (h : At K g Γ σ ((v, .dat (eW ps)) :: τ) H) : At K g Γ σ ((v, .dat (eW (ps.set j q))) :: τ) H := h.box fun v S z => by
  rcases eW_hd z with z | z
  · obtain ⟨a, vs, rfl, h2, h3⟩ := Hd.l z
    exact eW_l (.of ⟨a, vs, rfl, h2, hds_set (ps := ps) j h3 (fun w _ => hb w S) e⟩)
  · obtain ⟨a, vs, rfl, h2, h3⟩ := Hd.t z
    exact eW_t (.of ⟨a, vs, rfl, h2, hds_set (ps := ps) j h3 (fun w _ => hb w S) e⟩)
/-- the j-th is an int -/
theorem f_wint (j : Nat) {d : PyData} {ps : List VP} {f : Int → O ρ lam α} {P : Prop} (e : ps[j]? = some (eD d)) (hA : At K g Γ σ ((v, .dat (eW ps)) :: τ) H) (hm : Out (bindR (intD d) f) N T B C E) (k : ∀ i, At K g Γ σ ((v, .dat (eW (ps.set j (eI i)))) :: τ) H → Out (f i) N T B C E → P) : P := by
  cases d with
  | int i => exact k i (hA.boxW j e fun w S q => eD_int q) hm
  | _ => exact hm.elim
def gSeq (K : PySem.W.Frag) (n : Nat) (t : TGs) : TG := fun v σ H Q => gTup K n t v σ H Q ∨ gLst K n t v σ H Q
theorem pg_seq {Xc : Cx} {pos : Pos} {es : List Expr} {k : Nat} {t : TGs} {n : Nat} (hc : Xc.calm = true) (h : PGs Xc es t)
    (hn : (assignEach es Xc.env).length = n := by rfl) (hst : (assignEach es Xc.env).findIdx? (·.1) = none := by rfl) : PG Xc (.Tuple es k pos) (gSeq Xc.K n t) := by
  refine ⟨fun pins s σ H v u Q I r hw => ?_⟩
  rcases hw with hw | hw
  · exact (pg_tup hc h hn hst).run pins s σ H v u Q I r hw
  · exact (pg_lst hc h hn hst).run pins s σ H v u Q I r hw
theorem tj_seq {n : Nat} {tgs : TGs} {qs ps : List VP} {js : List Nat} (h : TJs K tgs qs js ps) (hn : qs.length = n) : TJ K (gSeq K n tgs) (eW qs) js ps := ⟨h.1, fun g Γ σ τ H x Q hi hτ ⟨S, hA⟩ k => by
  rcases eW_hd hA.top with z | z
  · obtain ⟨a, vs, rfl, h2, h3⟩ := Hd.l z
    exact .inr ⟨a, vs, rfl, hA.base.sh.seq h2, by rw [h3.len, hn], h.2 g Γ σ τ H vs Q hi hτ h3.len ⟨S, hA.pop.pushes h3⟩ k⟩
  · obtain ⟨a, vs, rfl, h2, h3⟩ := Hd.t z
    exact .inl ⟨a, vs, rfl, same_t hA.base.sh h2, by rw [h3.len, hn], h.2 g Γ σ τ H vs Q hi hτ h3.len ⟨S, hA.pop.pushes h3⟩ k⟩⟩
/-! ### a slice of a datum -/
def rSlQ (K : PySem.W.Frag) : V → Option Int → Option Int → Hp → VK → Prop := fun x lo hi H Q => rSlL K x lo hi H Q ∨ rSlA K x lo hi H Q
theorem sl_q {Xc : Cx} (hc : Xc.calm = true := by rfl) : SlR Xc (rSlQ Xc.K) := SlR.or sl_list sl_tupA
def cutD (d : PyData) (lo hi : Option Int) : R PyData := match d with
  | .list xs => .nx (.list (cutL xs lo hi))
  | .tuple xs => .nx (.tuple (cutL xs lo hi))
  | _ => .stuck
theorem f_cutD {d : PyData} {lo hi : Option Int} {f : PyData → O ρ lam α} (hA : At K g Γ σ ((v, .dat (eD d)) :: τ) H) (hm : Out (bindR (cutD d lo hi) f) N T B C E) (k : ∀ c v H', At K g Γ σ ((v, .dat (eD c)) :: τ) H' → Out (f c) N T B C E → Q v H') : rSlQ K v lo hi H Q := by
  cases d with
  | list xs =>
    refine .inl (o1_cutLT (xs := xs) (e := eD) .dat g σ τ H v Q (hA.box fun v S q => eD_list q) fun w H' h' => k _ w H' (h'.frz.box fun v S q => ?_) hm)
    have z := bx_l bx_d K _ v S q
    rw [dL, List.map_id] at z
    exact .of z
  | tuple xs =>
    refine .inr (o1_cutTT (xs := xs) (e := eD) g σ τ H v Q (hA.box fun v S q => eD_tup q) fun w H' h' => k _ w H' (h'.box fun v S q => ?_) hm)
    have z := bx_t bx_d K _ v S q
    rw [dT, List.map_id] at z
    exact .of z
  | _ => exact hm.elim
theorem x_sl {r : V → Option Int → Option Int → Hp → VK → Prop} {t1 t2 : TO} (h : te σ H fun x H1 => t1 σ H1 fun l H2 => t2 σ H2 fun u H3 => r x l u H3 Q) : tSl r te t1 t2 σ H Q := h
end
end Gv

set_option Elab.async false
set_option linter.all false
set_option maxRecDepth 100000
set_option maxHeartbeats 2000000
/-! Gv: what a text's top gives; small helps for printed proofs -/
namespace Gv
open PySem L2
section
variable {K : PySem.W.Frag} {ρ lam α β γ : Type} {X : Fx ρ} {Γ : List (Option Tm)} {g : Gh} {H : Hp} {σ : St} {τ : List (V × Tm)} {v x y : V} {t u z : Tm} {i j : Nat} {ta tb tc te : TE} {r r' : R2} {Q : VK} {N : α → Prop} {T : ρ → Prop} {B C : lam → Prop} {E : Er → Prop}
theorem dpt_d {d : PyData} : DpT K Γ (.dat (eD d)) d := DpT.dat (e := eD) (d := id) (x := d) bx_d
theorem hjl {sT : Type} {Gl : sT → List (Option Tm)} {js : List Nat} {n : Nat} (h1 : ∀ s, (Gl s).length = n) (h2 : js.all (fun j => decide (j < n)) = true) : ∀ s, ∀ j ∈ js, j < (Gl s).length := fun s j hj => by
  rw [h1 s]
  exact of_decide_eq_true (List.all_eq_true.mp h2 j hj)
def isNn (G : List (Option Tm)) (j : Nat) : Bool := match G[j]? with
  | some none => true
  | _ => false
theorem hnl {sT : Type} {Gl : sT → List (Option Tm)} {js : List Nat} (h : ∀ s, js.all (isNn (Gl s)) = true) : ∀ s, ∀ j ∈ js, (Gl s)[j]? = some none := fun s j hj => by
  have q := List.all_eq_true.mp (h s) j hj
  unfold isNn at q
  split at q
  · assumption
  · cases q
/-- a, b = x, y -/
theorem x_par {u : TS} {D : Ends} (h : ta σ H fun x H1 => tb σ H1 fun y H2 => u D ((σ.set i (some x)).set j (some y)) H2) : tSeq (tPar i j (tCons ta (tCons tb tNil))) u D σ H := by
  show ta σ H fun x H1 => tb σ H1 fun y H2 => ∃ v w, [x, y] = [v, w] ∧ u D ((σ.set i (some v)).set j (some w)) H2
  have e : (fun x H1 => tb σ H1 fun y H2 => ∃ v w, [x, y] = [v, w] ∧ u D ((σ.set i (some v)).set j (some w)) H2) = fun x H1 => tb σ H1 fun y H2 => u D ((σ.set i (some x)).set j (some y)) H2 := by
    funext x H1
    congr 1
    funext y H2
    apply propext
    constructor
    · rintro ⟨v, w, e, q⟩
      cases e
      exact q
    · exact fun q => ⟨x, y, rfl, q⟩
  rw [e]
  exact h
theorem At.setW (h : At K g Γ σ ((y, u) :: (x, t) :: []) H) (hu : ∀ j, u ≠ .als j) (ht : ∀ j, t ≠ .als j) (hj : j < Γ.length) (hi : i < Γ.length) (hij : i ≠ j) : At K g ((Γ.set i (some t)).set j (some u)) ((σ.set i (some x)).set j (some y)) [] H := by
  obtain ⟨S, h⟩ := h
  have h1 := h.set (i := j) hj hu (fun q hq k ek => by
    have : q = (x, t) := by simpa using hq
    subst this
    exact absurd ek (ht k))
  have h2 := h1.set (i := i) (by rw [List.length_set]; exact hi) ht (fun q hq => nomatch hq)
  rw [List.set_comm _ _ (Ne.symm hij), List.set_comm _ _ (Ne.symm hij)] at h2
  exact ⟨S, h2⟩
theorem f_par {n : α → List (Option Tm)} {b c : lam → List (Option Tm)} {m : O ρ lam α} {us : TS} {D : Ends} (hA : At K g Γ σ ((y, u) :: (x, t) :: []) H) (hu : ∀ j, u ≠ .als j) (ht : ∀ j, t ≠ .als j) (hj : j < Γ.length) (hi : i < Γ.length) (hij : i ≠ j)
    (hm : Out m (NxW K g n D.nx) (RtW K g X D.rt) (NxW K g b D.bk) (NxW K g c D.ct) (ErW K g X)) (h : BJ K X ((Γ.set i (some t)).set j (some u)) us m n b c) : us D ((σ.set i (some x)).set j (some y)) H := h g _ H D (hA.setW hu ht hj hi hij) hm
theorem x_gsub {to ti : TE} {ts : TSet} {Q : St → Hp → Prop} (h : to σ H fun o H1 => ti σ H1 fun i H2 => ts o i v H2 fun H3 => Q σ H3) : gSub to ti ts v σ H Q := h
theorem f_setm {e : β → VP} {xs : List β} {k : Int} {a : β} {x y z : V} {oa : Option Addr} {Q : Hp → Prop} {f : List β → O ρ lam α} (hg : Γ[i]? = some (some (.own oa (.lst (xs.map e))))) (hA : At K g Γ σ ((y, .dat (eI k)) :: (x, .als i) :: (z, .dat (e a)) :: τ) H)
    (hm : Out (bindR (setR xs k a) f) N T B C E) (kk : ∀ ys H', At K g (Γ.set i (some (.own oa (.lst (ys.map e))))) σ τ H' → Out (f ys) N T B C E → Q H') : rSetL x y z H Q :=
  f_set hg hA (hm.bindR.imp (fun ys q H' h' => kk ys H' h' q) fun _ q => q)
theorem f_appm {e : β → VP} {xs : List β} {a : β} {x y : V} {oa : Option Addr} {f : List β → O ρ lam α} (hg : Γ[i]? = some (some (.own oa (.lst (xs.map e))))) (hA : At K g Γ σ ((y, .dat (e a)) :: (x, .als i) :: τ) H)
    (hm : Out (bindR (appR xs a) f) N T B C E) (kk : ∀ ys H', At K g (Γ.set i (some (.own oa (.lst (ys.map e))))) σ τ H' → Out (f ys) N T B C E → Q .non H') : rAppend x [y] H Q :=
  f_app hg hA (hm.bindR.imp (fun ys q H' h' => kk ys H' h' q) fun _ q => q)
theorem x_app {rr : V → List V → Hp → VK → Prop} {xs : List β} {e : β → VP} {oa : Option Addr} (hg : Γ[i]? = some (some (.own oa (.lst (xs.map e))))) (hA : At K g Γ σ τ H) (h : ∀ x H1, At K g Γ σ ((x, .als i) :: τ) H1 → ta σ H1 fun y H2 => rr x [y] H2 Q) : tBM K "list" rr (tVar i) (tCons ta tNil) σ H Q :=
  x_bm1 <| ev_own hg g σ τ H _ hA fun x H1 ⟨S, h1⟩ => ⟨h1.tyL List.mem_cons_self (.als hg), h x H1 ⟨S, h1⟩⟩
end
/-! ### the text's top -/
structure Df (K : PySem.W.Frag) (mg : Str → Option Value) (x : Str) (st : Stmt) (f : Addr) (fd : FuncData) (pn : List Str) : Prop where
  F : Fun K x x st f fd
  g : mg x = some (.ref f)
  b : Binds K fd pn []
structure Ex1 (K : PySem.W.Frag) (mg : Str → Option Value) (cn q : Str) (fld : List Str) (st : Stmt) (C fI : Addr) (fd : FuncData) : Prop where
  oex : OexC K C
  g : mg cn = some (.ref C)
  iC : PySem.W.findIn K (.ref C) "__init__" = some (some (.ref fI))
  tI : PySem.W.typeIn K (.ref fI) = some (.type "function")
  F : Fun K "__init__" q st fI fd
  b : Binds K fd ("self" :: fld) []
  no : ∀ f ∈ fld, PySem.W.findIn K (.ref C) f = some none
  xf : XfC K C
end Gv

set_option Elab.async false
set_option linter.all false
set_option maxRecDepth 100000
set_option maxHeartbeats 2000000
/-! Gv: enumerate of a list or tuple; sorted pairs -/
namespace Gv
open PySem L2 PyProof.Rows
open Sem (wp)
/-! ### enumerate(v): its two cells -/
theorem meets_enum1 {v : Value} {o : Obj} {Hh : Heap → Prop} (B : Begins v o Hh) :
    Meets (Builtin.«enumerate.__new__» ⟨[.type "enumerate", v], []⟩) (fun _ R s => Hh s.heap ∧
      R (.ok (.ret (.ref (s.heap.push o).objs.size))) { s with heap := (s.heap.push o).push { cls := .type "enumerate", data := .fields #[.none, .bool false, .ref s.heap.objs.size, rawInt 0, .none, .none] } }) := by
  refine .of_wp fun prog w A R s h => ?_
  obtain ⟨hp, g, d, tk, os⟩ := s
  obtain ⟨h1, h⟩ := h
  have hs := sub_enumerate
  have q1 : ∀ {A2 : Around} {E : Value → Shared → Prop} {Q : Value → Shared → Prop}, Q (.ref hp.objs.size) ⟨hp.push o, g, d, tk, os⟩ → wpAny (model prog w) A2 (pyIter v) Q E ⟨hp, g, d, tk, os⟩ := fun q => B.iter prog w _ _ ⟨hp, g, d, tk, os⟩ _ h1 q
  wp_walk using q1
  refine wpAny_stack_any fun st => wpAny_pure ?_
  split
  · rename_i c _ _ _ _ _
    cases (c == Value.type "enumerate") <;> (wp_walk using q1; exact ⟨_, rfl, h⟩)
  · wp_walk using q1
    exact ⟨_, rfl, h⟩
theorem enum1_call {prog : Program} {w : World} {A : Around} {E : Value → Shared → Prop} {s : Shared} {v : Value} {o : Obj} {Hh : Heap → Prop} {Q : Value → Shared → Prop} (B : Begins v o Hh) (h1 : Hh s.heap)
    (h : ∀ h', IsEnum h' (s.heap.objs.size + 1) s.heap.objs.size 0 .none → h'.get? s.heap.objs.size = some o → (∀ b o, s.heap.get? b = some o → h'.get? b = some o) → Q (.ref (s.heap.objs.size + 1)) { s with heap := h' }) :
    wpAny (model prog w) A (call (.type "enumerate") [v]) Q E s := by
  refine callType_new F.called_enumerate (by decide) (F.typeCall_enumerate_1 _) (F.newCall_enumerate_1 _) (fun obj => F.args_object_init_2 obj _) F.entry_enumerate_new (meets_enum1 B) ⟨h1, ?_⟩
  have z : (s.heap.push o).objs.size = s.heap.objs.size + 1 := Heap.size_push ..
  show _ ∧ _
  rw [z]
  have e1 : IsEnum ((s.heap.push o).push { cls := .type "enumerate", data := .fields #[.none, .bool false, .ref s.heap.objs.size, rawInt 0, .none, .none] }) (s.heap.objs.size + 1) s.heap.objs.size 0 .none := by
    have q := Heap.get?_push_size (s.heap.push o) (o := { cls := .type "enumerate", data := .fields #[.none, .bool false, .ref s.heap.objs.size, rawInt 0, .none, .none] }) rfl
    rw [z] at q
    exact q
  exact ⟨⟨_, e1, rfl⟩, h _ e1 (Heap.get?_push_of_some _ (Heap.get?_push_size _ B.free)) fun b o q => Heap.get?_push_of_some _ (Heap.get?_push_of_some _ q)⟩
/-- the tuple at a, each item in a new pair -/
def IteT (K : PySem.W.Frag) (a : Addr) : It :=
  ⟨fun i H => ∃ (xs : List V) (x : V), SqT K H a xs ∧ xs[i]? = some x, fun i H v H' => ∃ T x, v = .ref T ∧ H T = none ∧ H' = upd H T (.tup [.int (i : Nat), x]) ∧ ∀ xs, SqT K H a xs → xs[i]? = some x, fun i H => ∃ xs : List V, SqT K H a xs ∧ xs.length ≤ i⟩
theorem turn_enumT {P : Program} {w : World} {K : PySem.W.Frag} {elts : List Expr} {kk : Nat} {tpos : Pos} (a e it : Addr) :
    Turn P w K (.Tuple elts kk tpos) (IteT K a) [e, it] e (fun i h => (∃ old, IsEnum h e it ((i : Nat) : Int) old) ∧ h.IsTupleIter it a i ∧ e ≠ it) := by
  have apart : ∀ {h : Heap} {i : Nat} {c : Int} {old : Value} {its : Array Value}, IsEnum h e it c old → h.IsTupleIter it a i → h.IsTuple a its → e ∉ [it, a] ∨ e = it := fun {h i c old its} h1 h2 h3 => by
    by_cases z : e = it
    · exact .inr z
    · refine .inl fun hm => ?_
      rcases List.mem_cons.mp hm with q | q
      · exact z q
      · have q2 : e = a := by simpa using q
        obtain ⟨o, ho, hc, _⟩ := h3
        rw [← q2] at ho
        have h1' : h.get? e = _ := h1
        rw [h1'] at ho
        cases ho
        have : ("enumerate" : String) = "tuple" := by injection hc
        exact absurd this (by decide)
  have ne2 : ∀ {h : Heap} {i : Nat} {its : Array Value}, h.IsTupleIter it a i → h.IsTuple a its → a ≠ it := fun {h i its} h2 h3 z => by
    obtain ⟨o, ho, hc, _⟩ := h3
    obtain ⟨o2, ho2, hc2, _⟩ := h2
    rw [z, ho2] at ho
    cases ho
    rw [hc2] at hc
    have : ("tuple_iterator" : String) = "tuple" := by injection hc
    exact absurd this (by decide)
  refine ⟨by simp, fun i h st b hb => ?_, fun i h h' st k => ?_, ?_, ?_, fun A i s Q E st h => ?_⟩
  · obtain ⟨⟨old, he⟩, ⟨o, ho, hc, hd⟩, _⟩ := st
    rcases (show b = e ∨ b = it by simpa using hb) with z | z
    · rw [z]
      exact ⟨_, he, fun v q => nomatch q⟩
    · rw [z]
      exact ⟨o, ho, fun v q => by rw [hd] at q; cases q⟩
  · obtain ⟨⟨old, he⟩, hi, hne⟩ := st
    exact ⟨⟨old, k e (by simp) _ he⟩, hi.at fun o q => k it (by simp) o q, hne⟩
  · intro X hP hw hK hc i pins s σ H E I hf st hg
    subst hP hw hK
    obtain ⟨⟨old, he⟩, hit, hne⟩ := st
    obtain ⟨xs, x, hq, hx⟩ := hg
    obtain ⟨its, rv, p, hz⟩ := I.tuple hq
    obtain ⟨u, hu, ru⟩ := rv.get hx
    have hlt : i < its.toArray.size := by
      have := (List.getElem?_eq_some_iff.mp hu).1
      simpa using this
    have hel : e < s.heap.objs.size := Heap.lt_size he
    have hil : it < s.heap.objs.size := by obtain ⟨_, q, _⟩ := hit; exact Heap.lt_size q
    have D := Draws.tuple (prog := X.prog) (w := X.w) (A := X.A.in1) (I.ok.hd hc) it a (ne2 hit p) its.toArray
    refine wpAny_pyNext_enum_itemD D he ⟨hit, p⟩ hlt hne ((apart he hit p).resolve_right hne) fun y h' tk hy ho hst hT hsz hk => ?_
    have ey : y = u := by
      have : its.toArray[i]? = some u := by simpa using hu
      rw [this] at hy
      exact (Option.some.inj hy).symm
    subst ey
    refine ⟨_, rfl, wpAny_letOwnedTupleGo_enum (s := { s with heap := h', toks := tk + 1 }) ho fun h2 he2 sb => ?_⟩
    have hT2 : h2.get? s.heap.objs.size = some { cls := .type "tuple", data := .seq #[.int i tk, y] } := (sb.2 _ (Nat.ne_of_gt hel)).trans hT
    have new : ObjOk X.prog X.w (upd H s.heap.objs.size (.tup [.int (i : Nat), x])) h2 s.heap.objs.size (.tup [.int (i : Nat), x]) :=
      ⟨by show 2 ≤ sizeLine; decide, [.int i tk, y], .cons ⟨_, rfl⟩ (.cons ru .nil), ⟨_, hT2, rfl, _, rfl⟩⟩
    have keep2 : ∀ b ob, b ∉ [e, it] → s.heap.get? b = some ob → h2.get? b = some ob := fun b ob hb q => by
      have b1 : b ≠ e := fun z => hb (by simp [z])
      have b2 : b ≠ it := fun z => hb (by simp [z])
      exact (sb.2 b b1).trans (hk b ob b1 b2 q)
    have I1 : Inv X pins σ (upd H s.heap.objs.size (.tup [.int (i : Nat), x])) { s with heap := h2, toks := tk + 1 } := I.turnedNew (ch := [e, it]) keep2 hf (Nat.le_refl _) new
    refine ⟨.ref s.heap.objs.size, _, I1, rfl, ⟨_, x, rfl, I.hok.fresh (Nat.le_refl _), rfl, fun ys hy => by rw [I.tuple_inj hy hq]; exact hx⟩, ⟨⟨y, ?_⟩, hst.1.at fun o q => (sb.2 it (Ne.symm hne)).trans q, hne⟩, fun b hb => ?_⟩
    · have e1 : ((i + 1 : Nat) : Int) = (i : Int) + 1 := by omega
      rw [e1]
      exact he2
    · have small : b < s.heap.objs.size := by
        rcases (show b = e ∨ b = it by simpa using hb) with z | z
        · rw [z]; exact hel
        · rw [z]; exact hil
      rw [upd_ne (Nat.ne_of_lt small)]
      exact (hf b hb).1
  · intro X hP hw hK hc i pins s σ H E I hf st hg
    subst hP hw hK
    obtain ⟨⟨old, he⟩, hit, hne⟩ := st
    obtain ⟨xs, hq, hx⟩ := hg
    obtain ⟨its, rv, p, hz⟩ := I.tuple hq
    obtain ⟨f0, f1, f2, f3, f4, f5⟩ := hf it (by simp)
    have hl := rv.length
    have T : s.TypeIs (.ref e) "enumerate" := ⟨_, he, rfl⟩
    unfold pyNext
    refine wpAny_bind (wpAny_attempt (wpAny_callSpecial?_slot (name := Str.ofString "__next__") T F.slot_enumerate_next (wpAny_call_entry F.slot_enumerate_next T F.entry_enumerate_next ?_ (F.args_enumerate_next_1 _))))
    show wpAny _ _ (field (.ref e) 2 >>= _) _ _ _
    refine wpAny_bind (wpAny_field he rfl (x := .ref it) rfl ?_)
    refine wpAny_bind (wpAny_nextOf_tuple_end (I.ok.hd hc) hit p (by simp; omega) fun h' x he' hx' => ?_)
    obtain ⟨o, ho, hcl⟩ := hx'
    refine wpAny_bind (wpAny_isInstance (T := "StopIteration") (b := true) ⟨o, ho, hcl⟩ isSubtype_stop ?_)
    exact wpAny_pure ⟨rfl, I.turned (t' := s.toks) (fun b o hb q => he' b o hb q) f0 f1 f3 f4 f5⟩
  · obtain ⟨⟨_, he⟩, _⟩ := st
    exact wpAny_pyIter_enum he h
/-- enumerate(v), v a list or a tuple -/
def iEnumQ (K : PySem.W.Frag) (tl : TE) : TI := fun σ H R => tl σ H fun v H1 => (∃ a, v = .ref a ∧ (∃ xs, SqL K H1 a xs) ∧ R (Ite K a) H1) ∨ (∃ a, v = .ref a ∧ (∃ xs, SqT K H1 a xs) ∧ R (IteT K a) H1)
theorem pi_enumQ {X : Cx} {e : Expr} {tl : TE} {p pos tpos : Pos} {elts : List Expr} {kk : Nat} (hg : Gl X "enumerate") (hm : X.mg "enumerate" = none) (he : PE X e tl) (hs : starEach [e] X.env = [(false, eval e X.env)] := by rfl) :
    PI X (.Tuple elts kk tpos) (.Call (.Name "enumerate" p) [e] [] pos) (iEnumQ X.K tl) := by
  refine ⟨fun pins s σ H R I h => ?_⟩
  have ha : PA X [e] (tCons tl tNil) := pa_cons he pa_nil (by rw [hs]; rfl)
  have h2 : (tCons tl tNil) σ H fun vs H1 => ∃ v, vs = [v] ∧ ((∃ a, v = V.ref a ∧ (∃ xs, SqL X.K H1 a xs) ∧ R (Ite X.K a) H1) ∨ (∃ a, v = V.ref a ∧ (∃ xs, SqT X.K H1 a xs) ∧ R (IteT X.K a) H1)) := by
    show tl σ H fun v H1 => ∃ v', [v] = [v'] ∧ _
    have eq : (fun v H1 => ∃ v', [v] = [v'] ∧ ((∃ a, v' = V.ref a ∧ (∃ xs, SqL X.K H1 a xs) ∧ R (Ite X.K a) H1) ∨ (∃ a, v' = V.ref a ∧ (∃ xs, SqT X.K H1 a xs) ∧ R (IteT X.K a) H1))) = fun v H1 => (∃ a, v = V.ref a ∧ (∃ xs, SqL X.K H1 a xs) ∧ R (Ite X.K a) H1) ∨ (∃ a, v = V.ref a ∧ (∃ xs, SqT X.K H1 a xs) ∧ R (IteT X.K a) H1) := by
      funext v H1
      apply propext
      constructor
      · rintro ⟨v', e1, q⟩
        cases e1
        exact q
      · exact fun q => ⟨v, rfl, q⟩
    rw [eq]
    exact h
  refine Call_ (ld_blt I hg hm boot_enumerate (PyProof.Rows.callWith_type1 (thn (ha.run pos pins s σ H _ I h2) fun us s1 hw => ?_) hs rfl))
  obtain ⟨vs, H1, I1, r1, v, ev, q1⟩ := hw
  subst ev
  cases r1 with
  | cons r rr =>
    cases rr
    have fresh : ∀ b ∈ [s1.heap.objs.size + 1, s1.heap.objs.size], FpOk X pins H1 b := fun b hb => by
      have hle : s1.heap.objs.size ≤ b := by
        rcases (show b = s1.heap.objs.size + 1 ∨ b = s1.heap.objs.size by simpa using hb) with z | z
        · rw [z]; exact Nat.le_add_right _ _
        · rw [z]; exact Nat.le_refl _
      exact I1.fpOk hle (I1.hok.fresh hle)
    rcases q1 with ⟨a, ea, ⟨ws, hq⟩, q⟩ | ⟨a, ea, ⟨ws, hq⟩, q⟩
    · rw [ea] at r
      cases r
      obtain ⟨its, rv, pl, hz⟩ := I1.list hq
      refine enum1_call (begins_list a its.toArray) pl.isList fun h' h1 h2 hk => wpAny_pyIter_enum h1 ?_
      exact ⟨s1.heap.objs.size + 1, [s1.heap.objs.size + 1, s1.heap.objs.size], _, _, H1, rfl, I1.kept (t' := s1.toks) hk, turn_enum a (s1.heap.objs.size + 1) s1.heap.objs.size, ⟨⟨.none, h1⟩, ⟨_, h2, rfl, rfl⟩, Nat.succ_ne_self _⟩, fresh, q⟩
    · rw [ea] at r
      cases r
      obtain ⟨its, rv, pt, hz⟩ := I1.tuple hq
      refine enum1_call (begins_tuple a its.toArray) pt fun h' h1 h2 hk => wpAny_pyIter_enum h1 ?_
      exact ⟨s1.heap.objs.size + 1, [s1.heap.objs.size + 1, s1.heap.objs.size], _, _, H1, rfl, I1.kept (t' := s1.toks) hk, turn_enumT a (s1.heap.objs.size + 1) s1.heap.objs.size, ⟨⟨.none, h1⟩, ⟨_, h2, rfl, rfl⟩, Nat.succ_ne_self _⟩, fresh, q⟩
end Gv

set_option Elab.async false
set_option linter.all false
set_option maxRecDepth 100000
set_option maxHeartbeats 2000000
/-! Gv: enumerate walked; pairs of ints that stand as they were laid; sorted of such -/
namespace Gv
open PySem L2
/-! ### sorted pairs, in plain Lean -/
def insP (x : Int × Int) : List (Int × Int) → List (Int × Int)
  | [] => [x]
  | y :: ys => if SrtO.lexB y x then y :: insP x ys else x :: y :: ys
def sortP : List (Int × Int) → List (Int × Int)
  | [] => []
  | x :: xs => insP x (sortP xs)
theorem insP_perm (x : Int × Int) : ∀ l : List (Int × Int), (insP x l).Perm (x :: l)
  | [] => .refl _
  | y :: ys => by
    unfold insP
    split
    · exact ((insP_perm x ys).cons y).trans (.swap _ _ _)
    · exact .refl _
theorem sortP_perm : ∀ l : List (Int × Int), (sortP l).Perm l
  | [] => .refl _
  | x :: xs => (insP_perm x (sortP xs)).trans ((sortP_perm xs).cons x)
theorem insP_sorted (x : Int × Int) : ∀ l : List (Int × Int), SrtO.Srtd SrtO.lexB l → SrtO.Srtd SrtO.lexB (insP x l)
  | [], _ => List.pairwise_singleton _ _
  | y :: ys, h => by
    obtain ⟨h1, h2⟩ := List.pairwise_cons.mp h
    unfold insP
    split
    · rename_i e
      refine List.pairwise_cons.mpr ⟨fun z hz => ?_, insP_sorted x ys h2⟩
      rcases List.mem_cons.mp ((insP_perm x ys).mem_iff.mp hz) with rfl | hz
      · have := SrtO.lexB_iff.mp e
        exact SrtO.lexB_no.mpr (by omega)
      · exact h1 z hz
    · rename_i e
      have e' := SrtO.lexB_no.mp (by simpa using e)
      refine List.pairwise_cons.mpr ⟨fun z hz => ?_, h⟩
      rcases List.mem_cons.mp hz with rfl | hz
      · exact SrtO.lexB_no.mpr e'
      · have q := SrtO.lexB_no.mp (h1 z hz)
        exact SrtO.lexB_no.mpr (by omega)
theorem sortP_sorted : ∀ l : List (Int × Int), SrtO.Srtd SrtO.lexB (sortP l)
  | [] => .nil
  | x :: xs => insP_sorted x _ (sortP_sorted xs)
theorem lex_uniq : ∀ {l m : List (Int × Int)}, l.Perm m → SrtO.Srtd SrtO.lexB l → SrtO.Srtd SrtO.lexB m → l = m
  | [], m, p, _, _ => (List.Perm.nil_eq p)
  | x :: l, [], p, _, _ => absurd p.length_eq (by simp)
  | x :: l, y :: m, p, hl, hm => by
    obtain ⟨l1, l2⟩ := List.pairwise_cons.mp hl
    obtain ⟨m1, m2⟩ := List.pairwise_cons.mp hm
    have e : x = y := by
      rcases List.mem_cons.mp (p.mem_iff.mp List.mem_cons_self) with e | hx
      · exact e
      · rcases List.mem_cons.mp (p.mem_iff.mpr List.mem_cons_self) with e | hy
        · exact e.symm
        · have a := SrtO.lexB_no.mp (m1 x hx)
          have b := SrtO.lexB_no.mp (l1 y hy)
          obtain ⟨x1, x2⟩ := x
          obtain ⟨y1, y2⟩ := y
          simp only at a b
          have : x1 = y1 := by omega
          have : x2 = y2 := by omega
          simp_all
    subst e
    rw [lex_uniq p.cons_inv l2 m2]
/-- a pair of ints that stands as it was laid -/
def eQ (x : Int × Int) : VP := fun _ v S => ∃ a, v = .ref a ∧ S a = some (.tup [.int x.1, .int x.2])
def enumL {β : Type} (xs : List β) : List (Int × β) := xs.zipIdx.map fun p => ((p.2 : Int), p.1)
theorem enumL_len {β : Type} (xs : List β) : (enumL xs).length = xs.length := by unfold enumL; rw [List.length_map, List.length_zipIdx]
theorem enumL_get {β : Type} {xs : List β} {i : Nat} {b : Int × β} (h : (enumL xs)[i]? = some b) : b.1 = (i : Nat) ∧ xs[i]? = some b.2 := by
  unfold enumL at h
  rw [List.getElem?_map, List.getElem?_zipIdx] at h
  cases e : xs[i]? with
  | none => rw [e] at h; cases h
  | some y =>
    rw [e] at h
    simp only [Option.map_some, Option.some.injEq] at h
    subst h
    exact ⟨by simp, rfl⟩
section
variable {K : PySem.W.Frag} {ρ lam α β γ : Type} {X : Fx ρ} {Γ : List (Option Tm)} {g : Gh} {S H : Hp} {σ : St} {τ : List (V × Tm)} {v x y : V} {t u z : Tm} {i j : Nat} {ta tb tc te : TE} {r r' : R2} {Q : VK} {N : α → Prop} {T : ρ → Prop} {B C : lam → Prop} {E : Er → Prop}
  {e : β → VP} {xs : List β} {Rk : It → Hp → Prop}
theorem eQ_p {x : Int × Int} (h : Hd K (eQ x) v S) : Hd K (eP2 eI eI x) v S := by
  obtain ⟨S0, e0, a, rfl, h1⟩ := h
  exact ⟨S0, e0, a, _, rfl, SqT.of h1, .cons (.of rfl) (.cons (.of rfl) .nil)⟩
theorem f_tupQ {a b : Int} (hA : At K g Γ σ ((y, .dat (eI b)) :: (x, .dat (eI a)) :: τ) H) (k : ∀ v H', At K g Γ σ ((v, .dat (eQ (a, b))) :: τ) H' → Q v H') : TupK Q [x, y] H := by
  obtain ⟨S, h⟩ := hA
  have e1 : y = V.int b := h.top.i
  have e2 : x = V.int a := h.pop.top.i
  subst e1 e2
  exact ⟨by show 2 ≤ sizeLine; decide, fun p hp => k _ _ ⟨_, (h.pop.pop.lay hp).push (.of ⟨p, rfl, upd_same⟩)⟩⟩
theorem hds_q {kf : V → Int × Int} : ∀ {xs : List (Int × Int)} {vs : List V}, Hds K S (xs.map eQ) vs → Same S H → (∀ t i j, H t = some (.tup [.int i, .int j]) → kf (.ref t) = (i, j)) → xs = vs.map kf ∧ ∀ v ∈ vs, ∃ t, v = V.ref t ∧ S t = some (.tup [.int (kf v).1, .int (kf v).2])
  | [], _, .nil, _, _ => ⟨rfl, fun v h => nomatch h⟩
  | x :: xs, _, .cons r t, hs, hk => by
    obtain ⟨q1, q2⟩ := hds_q (xs := xs) t hs hk
    obtain ⟨S0, e0, a, ea, h1⟩ := r
    have h2 := e0 _ _ h1
    have h3 := hk a _ _ (hs _ _ h2)
    refine ⟨?_, fun v hv => ?_⟩
    · rw [List.map_cons, ea, h3, ← q1]
    · rcases List.mem_cons.mp hv with rfl | hv
      · exact ⟨a, ea, by rw [ea, h3]; exact h2⟩
      · exact q2 v hv
theorem q_hds {kf : V → Int × Int} : ∀ {vs : List V}, (∀ v ∈ vs, ∃ t, v = V.ref t ∧ S t = some (.tup [.int (kf v).1, .int (kf v).2])) → Hds K S ((vs.map kf).map eQ) vs
  | [], _ => .nil
  | v :: vs, h => by
    obtain ⟨t, e, q⟩ := h v List.mem_cons_self
    exact .cons (.of ⟨t, e, q⟩) (q_hds fun w hw => h w (List.mem_cons_of_mem _ hw))
/-- sorted(xs) of pairs of ints -/
theorem o1_sortedQ {xs : List (Int × Int)} (hl : IsL Γ t (xs.map eQ)) : O1 K Γ (fun x => rSortedPO K [x]) t (.own none (.lst ((sortP xs).map eQ))) := fun g σ τ H x Q ⟨S, h⟩ k => by
  obtain ⟨a, vs, rfl, h2, h3⟩ := h.isL List.mem_cons_self hl
  let kf : V → Int × Int := fun v => match v with
    | .ref t => match H t with
      | some (.tup [.int i, .int j]) => (i, j)
      | _ => (0, 0)
    | _ => (0, 0)
  have hk : ∀ t i j, H t = some (.tup [.int i, .int j]) → kf (.ref t) = (i, j) := fun t i j e => by
    show (match H t with
      | some (.tup [.int i, .int j]) => (i, j)
      | _ => (0, 0)) = (i, j)
    rw [e]
  obtain ⟨q1, q2⟩ := hds_q (kf := kf) h3 h.base.sh hk
  refine ⟨a, vs, kf, rfl, h2, fun v hv => ?_, fun ys p h1 hst hn => k _ _ ⟨S, h.pop.fresh hn ⟨ys, rfl, ?_⟩⟩⟩
  · obtain ⟨t, e, q⟩ := q2 v hv
    exact ⟨t, e, h.base.sh _ _ q⟩
  · have e : sortP xs = ys.map kf := by
      refine lex_uniq ((sortP_perm xs).trans ?_) (sortP_sorted xs) (SrtO.srtd_map h1)
      rw [q1]
      exact (hst.perm.map kf).symm
    rw [e]
    exact q_hds fun v hv => q2 v (hst.perm.mem_iff.mp hv)
/-! ### enumerate walked -/
theorem walk_enumT {a : Addr} {vs : List V} : Walk (IteT K a) vs.length (fun H => SqT K H a vs) (YPair (fun i => some (.int (i : Nat))) (fun i => vs[i]?)) := by
  refine ⟨fun i _ hi q => ⟨vs, vs[i], q, by simp [hi]⟩, fun _ q => ⟨vs, q, Nat.le_refl _⟩, fun i H v H' _ q y => ?_⟩
  obtain ⟨T, x, h1, h2, h3, h4⟩ := y
  exact ⟨T, .int (i : Nat), x, h1, h2, h3, rfl, h4 vs q⟩
theorem enum_yield {g : Gh} {S : Hp} {vs : List V} (h3 : Hds K S (xs.map e) vs) (hS : Same S g.S0) : ∀ (i : Nat) (b : Int × β) (x : V) (H1 H2 : Hp) (Γ' : List (Option Tm)) (σ' : St) (τ' : List (V × Tm)), (enumL xs)[i]? = some b →
    YPair (fun i => some (.int (i : Nat))) (fun i => vs[i]?) i H1 x H2 → At K g Γ' σ' τ' H1 → At K g Γ' σ' ((x, .dat (eP2 eI e b)) :: τ') H2 := fun i b x H1 H2 Γ' σ' τ' hb hy ⟨S2, hA2⟩ => by
  obtain ⟨T, y, w, rfl, hn, rfl, e1, e2⟩ := hy
  obtain ⟨b1, b2⟩ := enumL_get hb
  have e1' : y = V.int (i : Nat) := (Option.some.inj e1).symm
  obtain ⟨w2, w3, w4⟩ := h3.get (show (xs.map e)[i]? = some (e b.2) by rw [List.getElem?_map, b2]; rfl)
  have e2' : vs[i]? = some w := e2
  rw [e2'] at w3
  cases w3
  subst e1'
  refine hA2.newT hn (ps := [eI b.1, e b.2]) (.cons (.of ?_) (.cons ((w4.mono hS).mono hA2.base.s0) .nil))
  show V.int _ = V.int _
  rw [b1]
theorem wk_enumL (hA : At K g Γ σ ((v, .dat (eL e xs)) :: τ) H) (hm : WK K g Γ σ τ (enumL xs) (eP2 eI e) Rk) : ∃ a, v = .ref a ∧ (∃ xs, SqL K H a xs) ∧ Rk (Ite K a) H := by
  obtain ⟨S, h⟩ := hA
  obtain ⟨a, vs, rfl, h2, h3⟩ := Hd.l h.top
  have hl : vs.length = (enumL xs).length := by rw [enumL_len, h3.len, List.length_map]
  exact ⟨a, rfl, ⟨vs, h.base.sh.seq h2⟩, hm (Ite K a) (fun H => SqL K H a vs) _ S H (by rw [← hl]; exact walk_enum) h.base.s0 h.base.fs ⟨S, h.pop.reS⟩ (fun S2 H2 B => B.reS.seq h2) (enum_yield h3 (Same.refl _))⟩
theorem wk_enumT (hA : At K g Γ σ ((v, .dat (eT e xs)) :: τ) H) (hm : WK K g Γ σ τ (enumL xs) (eP2 eI e) Rk) : ∃ a, v = .ref a ∧ (∃ xs, SqT K H a xs) ∧ Rk (IteT K a) H := by
  obtain ⟨S, h⟩ := hA
  obtain ⟨a, vs, rfl, h2, h3⟩ := Hd.t h.top
  have hl : vs.length = (enumL xs).length := by rw [enumL_len, h3.len, List.length_map]
  exact ⟨a, rfl, ⟨vs, same_t h.base.sh h2⟩, hm (IteT K a) (fun H => SqT K H a vs) _ S H (by rw [← hl]; exact walk_enumT) h.base.s0 h.base.fs ⟨S, h.pop.reS⟩ (fun S2 H2 B => same_t B.reS h2) (enum_yield h3 (Same.refl _))⟩
theorem wk_enumD {d : PyData} {F : List PyData → O ρ lam α} (hA : At K g Γ σ ((v, .dat (eD d)) :: τ) H) (hm : Out (bindR (itemsD d) F) N T B C E) (k : ∀ xs, Out (F xs) N T B C E → WK K g Γ σ τ (enumL xs) (eP2 eI eD) Rk) :
    (∃ a, v = .ref a ∧ (∃ xs, SqL K H a xs) ∧ Rk (Ite K a) H) ∨ (∃ a, v = .ref a ∧ (∃ xs, SqT K H a xs) ∧ Rk (IteT K a) H) :=
  f_items hA hm fun xs h hm => h.elim (fun h => .inl (wk_enumL h (k xs hm))) fun h => .inr (wk_enumT h (k xs hm))
theorem wk_enumQL (hA : At K g Γ σ ((v, .dat (eL e xs)) :: τ) H) (hm : WK K g Γ σ τ (enumL xs) (eP2 eI e) Rk) : (∃ a, v = .ref a ∧ (∃ xs, SqL K H a xs) ∧ Rk (Ite K a) H) ∨ (∃ a, v = .ref a ∧ (∃ xs, SqT K H a xs) ∧ Rk (IteT K a) H) := .inl (wk_enumL hA hm)
theorem wk_enumQT (hA : At K g Γ σ ((v, .dat (eT e xs)) :: τ) H) (hm : WK K g Γ σ τ (enumL xs) (eP2 eI e) Rk) : (∃ a, v = .ref a ∧ (∃ xs, SqL K H a xs) ∧ Rk (Ite K a) H) ∨ (∃ a, v = .ref a ∧ (∃ xs, SqT K H a xs) ∧ Rk (IteT K a) H) := .inr (wk_enumT hA hm)
variable {tg : TG} {tb' us : TS} {D : Ends} {tl : TE} {tt : TT} {vs : List Nat}
theorem x_forE (h : tl σ H fun v H1 => (∃ a, v = .ref a ∧ (∃ xs, SqL K H1 a xs) ∧ FR tg tb' us D σ (Ite K a) H1) ∨ (∃ a, v = .ref a ∧ (∃ xs, SqT K H1 a xs) ∧ FR tg tb' us D σ (IteT K a) H1)) : tSeq (tFor (iEnumQ K tl) tg tb') us D σ H := h
theorem x_lcE (h : tl σ H fun v H1 => (∃ a, v = .ref a ∧ (∃ xs, SqL K H1 a xs) ∧ LR tg tt te vs σ Q (Ite K a) H1) ∨ (∃ a, v = .ref a ∧ (∃ xs, SqT K H1 a xs) ∧ LR tg tt te vs σ Q (IteT K a) H1)) : tLc (iEnumQ K tl) tg tt te vs σ H Q := h
/-- a tuple's items boxed -/
theorem hds_box {d : β → PyData} (h : Bx e d) : ∀ {xs : List β} {vs : List V}, Hds K S (xs.map e) vs → Hds K S ((xs.map d).map eD) vs
  | [], _, .nil => .nil
  | x :: xs, _, .cons r t => .cons (Bx.hd h _ _ r) (hds_box h t)
theorem boxT {d : β → PyData} (h : Bx e d) {xs : List β} : ∀ v S, Hd K (eT e xs) v S → Hd K (eT eD (xs.map d)) v S := fun v S q => by
  obtain ⟨a, vs, rfl, h2, h3⟩ := Hd.t q
  exact .of ⟨a, vs, rfl, h2, hds_box h h3⟩
theorem boxL {d : β → PyData} (h : Bx e d) {xs : List β} : ∀ v S, Hd K (eL e xs) v S → Hd K (eL eD (xs.map d)) v S := fun v S q => by
  obtain ⟨a, vs, rfl, h2, h3⟩ := Hd.l q
  exact .of ⟨a, vs, rfl, h2, hds_box h h3⟩
end
/-! ### the law's own head -/
def spLaw (K : PySem.W.Frag) (n : Nat) : Sp := fun vs H Q E => ∃ (a : Addr) (ns : List Int), vs = [V.ref a] ∧ SqL K H a (ns.map V.int) ∧ ns.length ≤ n ∧ ∀ H', Q (.bl true) H'
theorem ints_hds {K : PySem.W.Frag} {S : Hp} : ∀ ns : List Int, Hds K S (ns.map eI) (ns.map V.int)
  | [] => .nil
  | n :: ns => .cons (.of rfl) (ints_hds ns)
theorem law_sp {K : PySem.W.Frag} {EC : Str → Addr} {n : Nat} {m : List Int → R Bool} {post : Bool → List Addr → List (Option Tm)} (h : ∀ ns, ns.length ≤ n → m ns = .nx true) {vs : List V} {H : Hp} {Q : VK} {E : XK} (q : spLaw K n vs H Q E) :
    Spec K EC 1 (fun a _ => [some (.dat (eL eI a))]) m post (fun r => .dat (eB r)) vs H Q E := by
  obtain ⟨a, ns, rfl, hS, hl, k⟩ := q
  refine ⟨rfl, ns, [], ⟨H, H⟩, rfl, ⟨H, ⟨Same.refl H, Same.refl H, Same.refl H, fun b h1 h2 => h2⟩, Nat.le_refl _, fun x hx => ?_, fun x hx j => ?_, fun x hx => (nomatch hx), ?_⟩, ?_⟩
  · have : x = (V.ref a, Tm.dat (eL eI ns)) := by simpa [pack] using hx
    subst this
    exact .of ⟨a, _, rfl, hS, ints_hds ns⟩
  · have : x = (V.ref a, Tm.dat (eL eI ns)) := by simpa [pack] using hx
    subst this
    exact fun z => nomatch z
  · simp [pack, addrs]
  · rw [h ns hl]
    intro v H' σ' ⟨S, hA⟩
    rw [show v = V.bl true from hA.top.b]
    exact k H'
def strD : PyData → R Str
  | .str x => .nx x
  | _ => .stuck
def boolD : PyData → R Bool
  | .bool x => .nx x
  | _ => .stuck
section
variable {K : PySem.W.Frag} {ρ lam α : Type} {Γ : List (Option Tm)} {g : Gh} {H : Hp} {σ : St} {τ : List (V × Tm)} {v : V} {N : α → Prop} {T : ρ → Prop} {B C : lam → Prop} {E : Er → Prop} {P : Prop}
theorem f_str {d : PyData} {f : Str → O ρ lam α} (hA : At K g Γ σ ((v, .dat (eD d)) :: τ) H) (hm : Out (bindR (strD d) f) N T B C E) (k : ∀ i, At K g Γ σ ((v, .dat (eS i)) :: τ) H → Out (f i) N T B C E → P) : P := by
  cases d with
  | str i =>
    refine k i (hA.box fun v S q => ?_) hm
    obtain ⟨S0, e, q⟩ := q
    have q : Dp K S0 v (.str i) := q
    cases q
    exact .of rfl
  | _ => exact hm.elim
theorem f_boolD {d : PyData} {f : Bool → O ρ lam α} (hA : At K g Γ σ ((v, .dat (eD d)) :: τ) H) (hm : Out (bindR (boolD d) f) N T B C E) (k : ∀ i, At K g Γ σ ((v, .dat (eB i)) :: τ) H → Out (f i) N T B C E → P) : P := by
  cases d with
  | bool i =>
    refine k i (hA.box fun v S q => ?_) hm
    obtain ⟨S0, e, q⟩ := q
    have q : Dp K S0 v (.bool i) := q
    cases q
    exact .of rfl
  | _ => exact hm.elim
end
theorem pe_gk {X : Cx} {v : V} {x : Str} {pos : Pos} (hg : Gl X x) (h : ∃ u, X.mg x = some u ∧ RelV v u) (hd : (x == ("__debug__" : Str)) = false := by decide) : PE X (.Name x pos) (tC v) := by
  obtain ⟨u, h1, h2⟩ := h
  exact pe_glob hg h1 h2 hd
end Gv

set_option Elab.async false
set_option linter.all false
set_option maxRecDepth 100000
set_option maxHeartbeats 2000000
/-! Gv: what stands behind the top -/
namespace Gv
open PySem L2 PyProof.Rows
theorem exm_of {K : PySem.W.Frag} {S C : Addr} {b : Bool} (eC : PySem.W.subIn K (.ref C) (.type "BaseException") = some true) (iC : PySem.W.isClsIn K C = true) (tC : PySem.W.typeIn K (.ref C) = some (.type "type"))
    (h4 : PySem.W.subIn K (.ref S) (.ref C) = some b) : PySem.W.exmOne K (.ref S) (.ref C) = some b := by
  have e1 : (PySem.W.subIn K (.ref C) (.type "BaseException") == some true) = true := by rw [eC] <;> rfl
  have e2 : ((PySem.W.clsIn K C).isSome && PySem.W.typeIn K (.ref C) == some (.type "type")) = true := by
    have q : (PySem.W.clsIn K C).isSome = true := iC
    rw [q, tC] <;> rfl
  show (if (PySem.W.subIn K (.ref C) (.type "BaseException") == some true) = true then (if ((PySem.W.clsIn K C).isSome && PySem.W.typeIn K (.ref C) == some (.type "type")) = true then PySem.W.subIn K (.ref S) (.ref C) else none) else none) = some b
  rw [if_pos e1, if_pos e2]
  exact h4
end Gv

set_option Elab.async false
set_option linter.all false
set_option maxRecDepth 100000
set_option maxHeartbeats 2000000
/-! Gv: lcm, augmented assignment -/
namespace Gv
open PySem L2
/-! ### lcm -/
def rLcm : List V → Hp → VK → Prop := fun xs H Q => ∃ a b : Int, xs = [.int a, .int b] ∧ a.natAbs < 1073741824 ∧ b.natAbs < 1073741824 ∧ Q (.int ((Nat.lcm a.natAbs b.natAbs : Nat) : Int)) H
theorem lcm_small {a b : Nat} (ha : a < 1073741824) (hb : b < 1073741824) : (((Nat.lcm 1 a).lcm b : Nat) : Int).natAbs.log2 < PySem.bitsLine := by
  rw [Nat.lcm_one_left, Int.natAbs_natCast]
  have h1 : Nat.lcm a b ≤ a * b := by
    rcases Nat.eq_zero_or_pos (a * b) with h | h
    · have : Nat.lcm a b = 0 := by
        unfold Nat.lcm
        rw [h, Nat.zero_div]
      omega
    · exact Nat.le_of_dvd h (Nat.lcm_dvd_mul a b)
  have h2 : a * b < 1073741824 * 1073741824 := Nat.mul_lt_mul'' ha hb
  have h3 : (Nat.lcm a b).log2 < 64 := by
    by_cases h0 : Nat.lcm a b = 0
    · rw [h0]; decide
    · exact (Nat.log2_lt h0).mpr (by omega)
  exact Nat.lt_of_lt_of_le h3 (by decide)
theorem cr_lcm {X : Cx} : CallR X (.builtin "math.lcm") rLcm := by
  intro pins s σ H vs us Q I r h
  obtain ⟨a, b, rfl, ha, hb, q⟩ := h
  obtain ⟨t, u, rfl⟩ := Vals.int2 r
  refine PySem.W.mg_lcm (by omega) (by omega) (lcm_small ha hb) ?_
  rw [Nat.lcm_one_left]
  exact ⟨.int _, H, I.tok _, ⟨_, rfl⟩, q⟩
def lcmI (a b : Int) : R Int := gd (decide (a.natAbs < 1073741824) && decide (b.natAbs < 1073741824)) ((Nat.lcm a.natAbs b.natAbs : Nat) : Int)
section
variable {K : PySem.W.Frag} {ρ lam α β γ : Type} {X : Fx ρ} {Γ : List (Option Tm)} {g : Gh} {H : Hp} {σ : St} {τ : List (V × Tm)} {v x y : V} {t u z : Tm} {i j : Nat} {ta tb tc te : TE} {r r' : R2} {Q : VK} {N : α → Prop} {T : ρ → Prop} {B C : lam → Prop} {E : Er → Prop}
theorem o2_lcm {a b : Int} : O2M K Γ (fun x y => rLcm [x, y]) (.dat (eI a)) (.dat (eI b)) (lcmI a b) (fun c => .dat (eI c)) := At.part2 fun h => At.scal2 (fun S v w h1 h2 H Q k => by
  simp only [Bool.and_eq_true, decide_eq_true_eq] at h
  exact ⟨a, b, by rw [h1.i, h2.i], h.1, h.2, k⟩) fun _ => rfl
/-! ### x op= e -/
theorem x_aug {f : Int → Int → Int} {us : TS} {D : Ends} {a : Int} (hg : Γ[i]? = some (some (.dat (eI a)))) (hA : At K g Γ σ [] H) (h : ∀ x, At K g Γ σ [(x, .dat (eI a))] H → te σ H fun y H1 => ipI f x y H1 fun z H2 => gName i z σ H2 (us D)) : tSeq (tAug i te (ipI f)) us D σ H := by
  obtain ⟨S, hS⟩ := hA
  obtain ⟨v, e, o, _⟩ := hS.slot hg
  exact ⟨v, e, h v ⟨S, hS.push o⟩⟩
theorem f_ip {f : Int → Int → Int} {a b : Int} (hA : At K g Γ σ ((y, .dat (eI b)) :: (x, .dat (eI a)) :: τ) H) (k : ∀ z H', At K g Γ σ ((z, .dat (eI (f a b))) :: τ) H' → Q z H') : ipI f x y H Q := by
  obtain ⟨S, h⟩ := hA
  exact ⟨a, b, h.pop.top.i, h.top.i, k _ H ⟨S, h.pop.pop.push (.of rfl)⟩⟩
/-! ### o[i] op= e, o an own list -/
theorem gt_list {Xc : Cx} : PGet Xc (rIxL Xc.K) := by
  intro pins s σ H o i ov iv Q I ro ri h
  obtain ⟨p, xs, k, z, rfl, rfl, hq, he, q⟩ := h
  cases ro
  obtain ⟨t, rfl⟩ := ri
  obtain ⟨its, r, pl, hz⟩ := I.list hq
  obtain ⟨j, h1, h2, h3, h4, h5⟩ := atI_get he
  obtain ⟨w, ew, rw'⟩ := r.get h2
  have hl := r.length
  have hn := line63
  have fin : EP Xc pins σ Q w s := ⟨z, H, I, rw', q⟩
  by_cases h0 : 0 ≤ k
  · have hj : k.toNat = j := by
      rw [seqIndex_of h0 h5] at h1
      exact Option.some.inj h1
    exact wpAny_getItem_list pl.isList h0 (by omega) (by rw [hj]; simpa using ew) fin
  · have hj : (k + (its.toArray.size : Int)).toNat = j := by
      rw [seqIndex_neg (by omega) h4] at h1
      rw [List.size_toArray, ← hl]
      exact Option.some.inj h1
    exact wpAny_getItem_list_neg pl.isList (by omega) (by rw [List.size_toArray] <;> omega) (by omega) (by rw [hj]; simpa using ew) fin
theorem x_augS {us : TS} {D : Ends} {f : Int → Int → Int} {rg : V → V → Hp → VK → Prop} {ts : TSet} (h : ta σ H fun o H1 => tb σ H1 fun i H2 => rg o i H2 fun x H3 => te σ H3 fun y H4 => ipI f x y H4 fun z H5 => ts o i z H5 fun H6 => us D σ H6) :
    tSeq (tAugS ta tb te rg (ipI f) ts) us D σ H := h
/-- the item read, alias and place stay -/
theorem f_augGet {e : β → VP} {xs : List β} {k : Int} {oa : Option Addr} {o w : V} {F : β → O ρ lam α} (hg : Γ[i]? = some (some (.own oa (.lst (xs.map e))))) (hA : At K g Γ σ ((w, .dat (eI k)) :: (o, .als i) :: τ) H)
    (hm : Out (bindR (idx xs k) F) N T B C E) (kk : ∀ a v, At K g Γ σ ((v, .dat (e a)) :: (w, .dat (eI k)) :: (o, .als i) :: τ) H → Out (F a) N T B C E → Q v H) : rIxL K o w H Q := by
  have hm2 := hm.bindR
  unfold idx at hm2
  cases e1 : atI xs k with
  | none => rw [e1] at hm2; exact hm2.elim
  | some a =>
    rw [e1] at hm2
    obtain ⟨S, h⟩ := hA
    obtain ⟨b, vs, rfl, h2, h3⟩ := h.isL (List.mem_cons_of_mem _ List.mem_cons_self) (.als hg)
    obtain ⟨v, h4, h5⟩ := atI_hds h3 (atI_map e1)
    exact ⟨b, vs, k, v, rfl, h.top.i, h2, h4, kk a v ⟨S, h.push h5⟩ hm2⟩
/-- the item stored: value on top, place, alias -/
theorem f_augSet {e : β → VP} {xs : List β} {k : Int} {a : β} {oa : Option Addr} {o w z : V} {Q : Hp → Prop} {F : List β → O ρ lam α} (hg : Γ[i]? = some (some (.own oa (.lst (xs.map e))))) (hA : At K g Γ σ ((z, .dat (e a)) :: (w, .dat (eI k)) :: (o, .als i) :: τ) H)
    (hm : Out (bindR (setR xs k a) F) N T B C E) (kk : ∀ ys H', At K g (Γ.set i (some (.own oa (.lst (ys.map e))))) σ τ H' → Out (F ys) N T B C E → Q H') : rSetL o w z H Q := by
  obtain ⟨S, h⟩ := hA
  have p : ((z, Tm.dat (e a)) :: (w, Tm.dat (eI k)) :: (o, Tm.als i) :: τ).Perm ((w, Tm.dat (eI k)) :: (o, Tm.als i) :: (z, Tm.dat (e a)) :: τ) :=
    (List.Perm.swap _ _ _).trans ((List.Perm.swap _ _ _).cons _)
  exact f_setm hg ⟨S, h.perm p⟩ hm kk
/-! ### a datum within a tuple, taken apart -/
theorem eW_set {S : Hp} {p q : VP} {ps : List VP} (j : Nat) (e : ps[j]? = some p) (hb : ∀ w S, Hd K p w S → Hd K q w S) (z : Hd K (eW ps) v S) : Hd K (eW (ps.set j q)) v S := by
  rcases eW_hd z with z | z
  · obtain ⟨a, vs, rfl, h2, h3⟩ := Hd.l z
    exact eW_l (.of ⟨a, vs, rfl, h2, hds_set (ps := ps) j h3 (fun w _ => hb w S) e⟩)
  · obtain ⟨a, vs, rfl, h2, h3⟩ := Hd.t z
    exact eW_t (.of ⟨a, vs, rfl, h2, hds_set (ps := ps) j h3 (fun w _ => hb w S) e⟩)
theorem At.boxI {p q : VP} {ps : List VP} (j : Nat) (e : ps[j]? = some p) (hb : ∀ w S, Hd K p w S → Hd K q w S) (h : At K g Γ σ ((v, .dat (rT ps)) :: τ) H) : At K g Γ σ ((v, .dat (rT (ps.set j q))) :: τ) H := h.box fun v S z => by
  obtain ⟨a, vs, rfl, h2, h3⟩ := Hd.t z
  exact .of ⟨a, vs, rfl, h2, hds_set (ps := ps) j h3 (fun w _ => hb w S) e⟩
theorem f_unp3I (j : Nat) {d : PyData} {ps : List VP} {f : PyData × PyData × PyData → O ρ lam α} {P : Prop} (e : ps[j]? = some (eD d)) (hA : At K g Γ σ ((v, .dat (rT ps)) :: τ) H) (hm : Out (bindR (unp3 d) f) N T B C E)
    (k : ∀ q, At K g Γ σ ((v, .dat (rT (ps.set j (eW [eD q.1, eD q.2.1, eD q.2.2])))) :: τ) H → Out (f q) N T B C E → P) : P := by
  obtain ⟨a, b, c, h | h, q⟩ := unp3_out hm
  · subst h
    exact k (a, b, c) (hA.boxI j e fun w S z => eW_l (eD_list z)) q
  · subst h
    exact k (a, b, c) (hA.boxI j e fun w S z => eW_t (eD_tup z)) q
theorem f_wintI (j m : Nat) {d : PyData} {ps qs : List VP} {f : Int → O ρ lam α} {P : Prop} (e : ps[j]? = some (eW qs)) (e2 : qs[m]? = some (eD d)) (hA : At K g Γ σ ((v, .dat (rT ps)) :: τ) H) (hm : Out (bindR (intD d) f) N T B C E)
    (k : ∀ i, At K g Γ σ ((v, .dat (rT (ps.set j (eW (qs.set m (eI i)))))) :: τ) H → Out (f i) N T B C E → P) : P := by
  cases d with
  | int i => exact k i (hA.boxI j e fun w S z => eW_set m e2 (fun w S z => eD_int z) z) hm
  | _ => exact hm.elim
/-! ### what may be None and is not -/
def getR {α : Type} (o : Option α) : R α := match o with
  | some a => .nx a
  | none => .stuck
theorem f_get {e : β → VP} {o : Option β} {f : β → O ρ lam α} {P : Prop} (hA : At K g Γ σ ((v, .dat (eO e o)) :: τ) H) (hm : Out (bindR (getR o) f) N T B C E) (k : ∀ a, At K g Γ σ ((v, .dat (e a)) :: τ) H → Out (f a) N T B C E → P) : P := by
  cases o with
  | none => exact hm.elim
  | some a => exact k a hA hm
theorem bj_narrow {e : β → VP} {o : Option β} {f : β → O ρ lam α} {ts : TS} {n : α → List (Option Tm)} {b c : lam → List (Option Tm)} (hg : Γ[i]? = some (some (.dat (eO e o)))) (h : ∀ a, BJ K X (Γ.set i (some (.dat (e a)))) ts (f a) n b c) : BJ K X Γ ts (bindR (getR o) f) n b c := fun g σ H D hA hm => by
  cases o with
  | none => exact hm.elim
  | some a =>
    have hs : Γ.set i (some (.dat (e a))) = Γ := by
      apply List.ext_getElem?
      intro j
      by_cases hj : i = j
      · subst hj
        rw [List.getElem?_set_self (List.getElem?_eq_some_iff.mp hg).1, hg]
        rfl
      · rw [List.getElem?_set_ne hj]
    have q := h a
    rw [hs] at q
    exact q g σ H D hA hm
end
theorem At.forget {K : PySem.W.Frag} {g : Gh} {Γ : List (Option Tm)} {σ : St} {τ : List (V × Tm)} {H : Hp} {i : Nat} {p : VP} (e : Γ[i]? = some (some (.dat p))) (h : At K g Γ σ τ H) : At K g (Γ.set i none) σ τ H := by
  obtain ⟨S, h⟩ := h
  exact ⟨S, h.drop1 e⟩
/-- the append of a suite: the frag by its name -/
theorem pe_bmK {X : Cx} {K : PySem.W.Frag} (hK : X.K = K) {o e : Expr} {es : List Expr} {to : TE} {t : TA} {name : Str} {apos cpos : Pos} {T id : String} {r : V → List V → Hp → VK → Prop} (pa : PlainAttrs T) (slot : Slot T name id) (hty : typeOf (.builtin id) = pure (.type "method_descriptor")) (hm : MtR X id r) (ho : PE X o to) (ha : PA X (e :: es) t)
    (hbase : attributeBase o name X.env (eval o X.env) = eval o X.env := by rfl)
    (hfew : ((backTo cpos (starEach (e :: es) X.env)).all (fun x => !x.1) && (backToKw cpos (keywordEach [] X.env)).all (fun x => x.1.isSome)
      && decide ((e :: es).length + ([] : List Keyword).length + (if ([] : List Keyword).isEmpty then 0 else 1) < 30)) = true := by rfl)
    (hline : (apos.endLine == cpos.line) = true := by rfl) (hs : starEach (e :: es) X.env = (false, eval e X.env) :: starEach es X.env := by rfl) (hplain : (backTo cpos (starEach es X.env)).any (·.1) = false := by rfl) :
    PE X (.Call (.Attribute o name apos) (e :: es) [] cpos) (tBM K T r to t) := by
  subst hK
  exact pe_bm pa slot hty hm ho ha hbase hfew hline hs hplain
end Gv

set_option Elab.async false
set_option linter.all false
set_option maxRecDepth 100000
set_option maxHeartbeats 2000000
/-! Gv: is None of a datum, max -/
namespace Gv
open PySem L2
def isNo : PyData → Bool
  | .none => true
  | _ => false
section
variable {prog : Program} {w : World} {A : Around} {E : Value → Shared → Prop} {s : Shared} {l : Addr} {xs : Array (Int × Tok)}
theorem max_intTup {Q : Value → Shared → Prop} (hh : A.handled = none) (hl : s.heap.IsTuple l (intItems xs)) (hne : 0 < xs.size)
    (h : ∀ v h' tk, (intItems xs)[argBest (fun i j => decide (numAt xs i > numAt xs j)) (xs.size - 1)]? = some v → (∀ b o, s.heap.get? b = some o → h'.get? b = some o) → Q v { s with heap := h', toks := tk }) :
    wpAny (model prog w) A (call (.builtin "max") [.ref l]) Q E s := by
  have hlt : l < s.heap.objs.size := by obtain ⟨_, e, _⟩ := hl; exact Heap.lt_size e
  have hfp : ∀ b ∈ [s.heap.objs.size, l], b < (s.heap.push { cls := .type "tuple_iterator", data := .fields #[.ref l, .int 0 0] }).objs.size := fun b hb => by
    rw [Heap.size_push]
    rcases List.mem_cons.mp hb with rfl | hb
    · exact Nat.lt_succ_self _
    · rcases List.mem_cons.mp hb with rfl | hb
      · exact Nat.lt_succ_of_lt hlt
      · cases hb
  refine call_max_walk (wpAny_pyIter_tuple hl ?_)
  refine ⟨_, _, _, _, _, _, _, rfl, Walks.tuple (A := A.in1) hh _ l (Nat.ne_of_lt hlt) (intItems xs), ⟨⟨_, Heap.get?_push_size _ rfl, rfl, rfl⟩, hl.push _⟩, hfp, by simpa [intItems] using hne, CmpOf.ints_gt (numAt xs) (fun _ _ => intItems_at), fun v h' tk hP hk => ?_⟩
  refine h v h' tk (by simpa [intItems] using hP) fun b o e => hk b o (fun hm => ?_) (Heap.get?_push_of_some _ e)
  rcases List.mem_cons.mp hm with e1 | hm
  · exact absurd (e1 ▸ Heap.lt_size e) (Nat.lt_irrefl _)
  · cases hm
open PyProof.Rows in
theorem max_rawT {its : List Value} {ns : List Int} {Q : Value → Shared → Prop} (hh : A.handled = none) (hl : s.heap.IsTuple l its.toArray) (hi : IntsAre its ns) (hne : 0 < ns.length)
    (h : ∀ h' tk M t', (∀ b o, s.heap.get? b = some o → h'.get? b = some o) → M ∈ ns → (∀ a, a ∈ ns → a ≤ M) → Q (.int M t') { s with heap := h', toks := tk }) : wpAny (model prog w) A (call (.builtin "max") [.ref l]) Q E s := by
  obtain ⟨xs, e⟩ := hi.allInts.items
  have hn : numsOf (intItems xs).toList = ns := by rw [← e]; exact hi.numsOf
  rw [nums_intItems] at hn
  subst hn
  rw [e] at hl
  have hsz : 0 < xs.size := by simpa using hne
  refine max_intTup hh hl hsz fun v h' tk hv hk => ?_
  obtain ⟨t, rfl⟩ := intItems_at hv
  obtain ⟨h1, h2⟩ := argBest_gt (numAt xs) (xs.size - 1)
  refine h h' tk _ t hk ?_ fun a ha => ?_
  · rw [numAt_eq]; exact PySem.getD_mem (by rw [List.length_map, Array.length_toList]; omega)
  · obtain ⟨j, hj, rfl⟩ := mem_getD ha
    rw [List.length_map, Array.length_toList] at hj
    rw [← numAt_eq]; exact h2 j (by omega)
end
def rMaxT (K : PySem.W.Frag) : List V → Hp → VK → Prop := fun vs H Q => ∃ (a : Addr) (ns : List Int), vs = [V.ref a] ∧ SqT K H a (ns.map V.int) ∧ 0 < ns.length ∧ ∀ m, m ∈ ns → (∀ y, y ∈ ns → y ≤ m) → Q (.int m) H
theorem cr_maxT {X : Cx} (hc : X.calm = true) : CallR X (.builtin "max") (rMaxT X.K) := by
  intro pins s σ H vs us Q I r h
  obtain ⟨a, ns, rfl, hs, hne, q⟩ := h
  obtain ⟨its, rv, hl, _⟩ := I.tuple hs
  rw [Vals.ref1 r]
  exact max_rawT (I.ok.hd hc) hl rv.ints hne fun h' tk m t' hk h1 h2 => ⟨.int _, H, I.kept hk, ⟨_, rfl⟩, q m h1 h2⟩
def maxL : List Int → Int
  | [] => 0
  | x :: xs => if maxL xs < x ∨ xs = [] then x else maxL xs
theorem maxL_ok : ∀ {xs : List Int}, xs ≠ [] → maxL xs ∈ xs ∧ ∀ y, y ∈ xs → y ≤ maxL xs
  | [], h => absurd rfl h
  | x :: xs, _ => by
    unfold maxL
    by_cases e : xs = []
    · subst e
      rw [if_pos (.inr rfl)]
      exact ⟨List.mem_cons_self, fun y hy => by have : y = x := by simpa using hy
                                                omega⟩
    · obtain ⟨a, b⟩ := maxL_ok e
      by_cases c : maxL xs < x
      · rw [if_pos (.inl c)]
        refine ⟨List.mem_cons_self, fun y hy => ?_⟩
        rcases List.mem_cons.mp hy with rfl | hy
        · omega
        · have := b y hy; omega
      · rw [if_neg (fun z => z.elim c e)]
        refine ⟨List.mem_cons_of_mem _ a, fun y hy => ?_⟩
        rcases List.mem_cons.mp hy with rfl | hy
        · omega
        · exact b y hy
def maxR (xs : List Int) : R Int := gd (!xs.isEmpty) (maxL xs)
section
variable {K : PySem.W.Frag} {Γ : List (Option Tm)}
theorem eD_dec {d : PyData} {v : V} {S : Hp} (h : Hd K (eD d) v S) : decide (v = .non) = isNo d := by
  obtain ⟨_, _, h⟩ := h
  cases h <;> first | rfl | exact decide_eq_false (fun z => nomatch z)
theorem o2_isND {d : PyData} : O2 K Γ rIsN (.dat (eD d)) (.dat eN) (.dat (eB (isNo d))) :=
  At.scal2 (fun S v w h1 h2 H Q k => ⟨h2.n, by rw [eD_dec h1]; exact k⟩) fun _ => rfl
theorem o2_notND {d : PyData} : O2 K Γ rNotN (.dat (eD d)) (.dat eN) (.dat (eB (!(isNo d)))) :=
  At.scal2 (fun S v w h1 h2 H Q k => ⟨h2.n, by rw [eD_dec h1]; exact k⟩) fun _ => rfl
theorem o1_maxT {xs : List Int} : O1M K Γ (fun x => rMaxT K [x]) (.dat (eT eI xs)) (maxR xs) (fun c => .dat (eI c)) := At.part1 fun hc g σ τ H x Q ⟨S, h⟩ k => by
  obtain ⟨a, vs, rfl, h2, h3⟩ := Hd.t h.top
  rw [hds_ints h3] at h2
  have hne : xs ≠ [] := fun z => by subst z; cases hc
  obtain ⟨m1, m2⟩ := maxL_ok hne
  refine ⟨a, xs, rfl, same_t h.base.sh h2, List.length_pos_iff.mpr hne, fun m h1 h2 => ?_⟩
  have : m = maxL xs := by have a := m2 m h1; have b := h2 _ m1; omega
  subst this
  exact k _ H ⟨S, h.pop.push (.of rfl)⟩
end
end Gv

set_option Elab.async false
set_option linter.all false
set_option maxRecDepth 100000
set_option maxHeartbeats 2000000
/-! Gv: tuples of data, tuples repeated, names narrowed, tuples that stand at the top -/
namespace Gv
open PySem L2
section
variable {K : PySem.W.Frag} {ρ lam α β γ : Type} {X : Fx ρ} {Γ : List (Option Tm)} {g : Gh} {H : Hp} {σ : St} {τ : List (V × Tm)} {v x y : V} {t u z : Tm} {i j : Nat} {P : Prop} {Q : VK} {N : α → Prop} {T : ρ → Prop} {B C : lam → Prop} {E : Er → Prop}
theorem o1_tupleD {d : PyData} : O1M K Γ (fun x => rTuple K [x]) (.dat (eD d)) (itemsD d) (fun xs => .dat (eT eD xs)) := fun g σ τ H x Q E hA hm => by
  cases d with
  | list xs =>
    have := o1_tuple (K := K) (Γ := Γ) (t := .dat (eL eD xs)) (ps := xs.map eD) (.l .dat)
    exact this g σ τ H x Q (hA.box fun v S q => eD_list q) hm
  | tuple xs =>
    have := o1_tuple (K := K) (Γ := Γ) (t := .dat (eT eD xs)) (ps := xs.map eD) .t
    exact this g σ τ H x Q (hA.box fun v S q => eD_tup q) hm
  | _ => exact hm.elim
def intsR : List PyData → R (List Int)
  | [] => .nx []
  | d :: ds => bindR (intD d) fun i => bindR (intsR ds) fun is => .nx (i :: is)
theorem intsR_ok : ∀ {xs : List PyData} {ys : List Int}, intsR xs = .nx ys → xs = ys.map PyData.int
  | [], ys, h => by cases h; rfl
  | d :: ds, ys, h => by
    unfold intsR at h
    cases d with
    | int i =>
      cases q : intsR ds with
      | nx is =>
        rw [q] at h
        cases h
        rw [intsR_ok q]
        rfl
      | er x => rw [q] at h; cases h
      | stuck => rw [q] at h; cases h
      | rt z => exact z.elim
      | bk z => exact z.elim
      | ct z => exact z.elim
    | _ => cases h
theorem intsR_er : ∀ {xs : List PyData} {x : Er}, intsR xs = .er x → False
  | [], x, h => by cases h
  | d :: ds, x, h => by
    unfold intsR at h
    cases d with
    | int i =>
      cases q : intsR ds with
      | nx is => rw [q] at h; cases h
      | er x => exact intsR_er q
      | stuck => rw [q] at h; cases h
      | rt z => exact z.elim
      | bk z => exact z.elim
      | ct z => exact z.elim
    | _ => cases h
theorem hds_int {S : Hp} : ∀ {ys : List Int} {vs : List V}, Hds K S ((ys.map PyData.int).map eD) vs → Hds K S (ys.map eI) vs
  | [], _, .nil => .nil
  | y :: ys, _, .cons r t => .cons (eD_int r) (hds_int t)
/-- the tuple on top is of ints -/
theorem f_ints {xs : List PyData} {f : List Int → O ρ lam α} (hA : At K g Γ σ ((v, .dat (eT eD xs)) :: τ) H) (hm : Out (bindR (intsR xs) f) N T B C E) (k : ∀ ys, At K g Γ σ ((v, .dat (eT eI ys)) :: τ) H → Out (f ys) N T B C E → P) : P := by
  cases q : intsR xs with
  | nx ys =>
    rw [q] at hm
    have e := intsR_ok q
    subst e
    refine k ys (hA.box fun v S h => ?_) hm
    obtain ⟨a, vs, h1, h2, h3⟩ := Hd.t h
    exact ⟨S, Same.refl S, a, vs, h1, h2, hds_int h3⟩
  | er x => exact (intsR_er q).elim
  | stuck => rw [q] at hm; exact hm.elim
  | rt z => exact z.elim
  | bk z => exact z.elim
  | ct z => exact z.elim
end
end Gv

set_option Elab.async false
set_option linter.all false
set_option maxRecDepth 100000
set_option maxHeartbeats 4000000
/-! Gv: a tuple repeated any small number of times -/
namespace Gv
open PySem PySem.Spec PyProof.Rows L2
theorem tuple_mul1 (l : Addr) (items : Array Value) (n : Nat) (dd : Option Addr) (sl : Array (Option Value)) (u : Tok) (hi : items.isEmpty = false) :
    Meets (Builtin.«tuple.__mul__» ⟨[.ref l, .int 1 u], []⟩) (fun _ R s => s.heap.get? l = some { cls := .type "tuple", dict := dd, data := .seq items n, slots := sl } ∧
      R (.ok (.ret (Value.ref l))) s) :=
  .of_wp fun prog w A R s h => by
    obtain ⟨hp, g, d, tk, os⟩ := s
    obtain ⟨hl, h⟩ := h
    have f1 := AutoSeq1.idx_int
    have c0 : (decide ((1 : Int) < -(2 ^ 63)) || decide ((1 : Int) ≥ 2 ^ 63)) = false := by decide
    have c1 : (items.isEmpty || (1 : Int) == 1) = true := by rw [hi]; rfl
    wp_walk using wpAny_loadPart' hl
    repeat (first
      | (refine wpAny_ite_false (decide_eq_false (by rw [c0]; exact Bool.false_ne_true)) ?_; wp_walk using wpAny_loadPart' hl)
      | (refine wpAny_ite_true (decide_eq_true (by rw [c1])) ?_; wp_walk using wpAny_loadPart' hl))
    exact ⟨_, rfl, h⟩
theorem tuple_mul0 (l : Addr) (items : Array Value) (n : Nat) (dd : Option Addr) (sl : Array (Option Value)) (u : Tok) (hi : items.isEmpty = false) :
    Meets (Builtin.«tuple.__mul__» ⟨[.ref l, .int 0 u], []⟩) (fun _ R s => s.heap.get? l = some { cls := .type "tuple", dict := dd, data := .seq items n, slots := sl } ∧
      R (.ok (.ret (Value.ref s.heap.objs.size))) { s with heap := s.heap.push { cls := Value.type "tuple", data := Data.seq #[] }, toks := s.toks }) :=
  .of_wp fun prog w A R s h => by
    obtain ⟨hp, g, d, tk, os⟩ := s
    obtain ⟨hl, h⟩ := h
    have f1 := AutoSeq1.idx_int
    have c0 : (decide ((0 : Int) < -(2 ^ 63)) || decide ((0 : Int) ≥ 2 ^ 63)) = false := by decide
    have c1 : (items.isEmpty || (0 : Int) == 1) = false := by rw [hi]; rfl
    have c2 : (decide ((0 : Int) ≤ 0) || items.isEmpty) = true := by rw [hi]; rfl
    wp_walk using wpAny_loadPart' hl
    repeat (first
      | (refine wpAny_ite_false (decide_eq_false (by rw [c0]; exact Bool.false_ne_true)) ?_; wp_walk using wpAny_loadPart' hl)
      | (refine wpAny_ite_false (decide_eq_false (by rw [c1]; exact Bool.false_ne_true)) ?_; wp_walk using wpAny_loadPart' hl)
      | (refine wpAny_ite_true (decide_eq_true (by rw [c2])) ?_; wp_walk using wpAny_loadPart' hl))
    exact ⟨_, rfl, h⟩
def rRep01 (K : PySem.W.Frag) : R2 := fun x y H Q => ∃ l k xs, x = .ref l ∧ y = .int k ∧ SqT K H l xs ∧ xs ≠ [] ∧ ((k = 1 ∧ Q (.ref l) H) ∨ (k = 0 ∧ ∀ p, H p = none → Q (.ref p) (upd H p (.tup []))))
section
variable {X : Cx}
theorem op_rep01 : OpR X (binaryOp .Mult) (rRep01 X.K) := by
  intro pins s σ H x y v u Q I rx ry h
  obtain ⟨l, k, xs, rfl, rfl, hT, hne, h⟩ := h
  cases rx
  obtain ⟨t, rfl⟩ := ry
  obtain ⟨its, r, ⟨⟨cls, dd, data, sl⟩, ho, hc, n, hd⟩, hs⟩ := I.tuple hT
  simp only at hc hd
  subst hc hd
  have hle : its.length = xs.length := r.length.symm
  have hn : its ≠ [] := fun e => hne (by
    rw [e] at hle
    exact List.eq_nil_of_length_eq_zero hle.symm)
  have hi : its.toArray.isEmpty = false := by
    cases its with
    | nil => exact absurd rfl hn
    | cons a b => rfl
  rcases h with ⟨rfl, q⟩ | ⟨rfl, q⟩
  · refine wpAny_binaryOp_repeat_ref (T := "tuple") (U := "int") (by decide) ⟨_, ho, rfl⟩ (fun s' => typeIs_int s' 1 t) noFill_tuple_mul F.fills_int_mul F.slot_int_rmul repeat_tuple F.slot_int_index.lookup
      (call_meets F.slot_int_rmul (typeIs_int s 1 t) F.entry_int_rmul (F.args_int_rmul_2 _ _) (int_rmul_tuple 1 t l its.toArray n dd sl)
        ⟨ho, rfl, ⟨_, ho, rfl⟩, call_meets F.slot_tuple_mul ⟨_, ho, rfl⟩ F.entry_tuple_mul (F.args_tuple_mul_2 _ _) (tuple_mul1 l its.toArray n dd sl t hi) ⟨ho, ?_⟩⟩)
    exact ⟨.ref l, H, I, rfl, q⟩
  · refine wpAny_binaryOp_repeat_ref (T := "tuple") (U := "int") (by decide) ⟨_, ho, rfl⟩ (fun s' => typeIs_int s' 0 t) noFill_tuple_mul F.fills_int_mul F.slot_int_rmul repeat_tuple F.slot_int_index.lookup
      (call_meets F.slot_int_rmul (typeIs_int s 0 t) F.entry_int_rmul (F.args_int_rmul_2 _ _) (int_rmul_tuple 0 t l its.toArray n dd sl)
        ⟨ho, rfl, ⟨_, ho, rfl⟩, call_meets F.slot_tuple_mul ⟨_, ho, rfl⟩ F.entry_tuple_mul (F.args_tuple_mul_2 _ _) (tuple_mul0 l its.toArray n dd sl t hi) ⟨ho, ?_⟩⟩)
    exact ⟨.ref s.heap.objs.size, _, I.laid (t' := s.toks) (o := .tup []) (fun b ob q => Heap.get?_push_of_some _ q) (Nat.le_refl _) ⟨Nat.zero_le _, [], .nil, IsTup.new _ _⟩, rfl, q _ (I.hok.fresh (Nat.le_refl _))⟩
def rRepA (K : PySem.W.Frag) : R2 := fun x y H Q => rRepT K x y H Q ∨ rRep01 K x y H Q
theorem op_repA : OpR X (binaryOp .Mult) (rRepA X.K) := by
  intro pins s σ H x y v u Q I rx ry h
  rcases h with h | h
  · exact op_repT pins s σ H x y v u Q I rx ry h
  · exact op_rep01 pins s σ H x y v u Q I rx ry h
end
section
variable {K : PySem.W.Frag} {Γ : List (Option Tm)} {β : Type}
def repA {α : Type} (xs : List α) (k : Int) : R (List α) := gd (!xs.isEmpty && decide (0 ≤ k) && decide (k ≤ 1000) && decide (xs.length ≤ 1000)) (List.replicate k.toNat xs).flatten
theorem o2_repA {xs : List β} {e : β → VP} {k : Int} : O2M K Γ (rRepA K) (.dat (eT e xs)) (.dat (eI k)) (repA xs k) (fun c => .dat (eT e c)) := At.part2 fun hc => fun g σ τ H x y Q ⟨S, h⟩ kk => by
  simp only [Bool.and_eq_true, decide_eq_true_eq, Bool.not_eq_true'] at hc
  obtain ⟨⟨⟨h0, h1⟩, h2⟩, h3⟩ := hc
  obtain ⟨a, vs, rfl, k2, k3⟩ := Hd.t h.pop.top
  have hl : vs.length = xs.length := by rw [k3.len, List.length_map]
  have hne : vs ≠ [] := fun e0 => by
    subst e0
    cases xs with
    | nil => cases h0
    | cons _ _ => simp at hl
  have q := h.pop.top
  by_cases c2 : 2 ≤ k
  · refine .inl ⟨a, k, vs, rfl, h.top.i, same_t h.base.sh k2, hne, c2, h2, by omega, fun p hn => kk _ _ (h.pop.pop.newT hn ?_)⟩
    rw [rep_map]
    exact hds_rep k3 k.toNat
  · refine .inr ⟨a, k, vs, rfl, h.top.i, same_t h.base.sh k2, hne, ?_⟩
    rcases (show k = 1 ∨ k = 0 by omega) with rfl | rfl
    · refine .inl ⟨rfl, kk _ _ ⟨S, h.pop.pop.push ?_⟩⟩
      have e : (List.replicate (1 : Int).toNat xs).flatten = xs := by simp
      rw [e]
      exact q
    · exact .inr ⟨rfl, fun p hn => kk _ _ (h.pop.pop.newT hn .nil)⟩
def repL {α : Type} (xs : List α) (k : Int) : R (List α) := gd (decide (0 ≤ k) && decide (k ≤ 1000) && decide (xs.length ≤ 1000)) (List.replicate k.toNat xs).flatten
theorem o2_repL {t : Tm} {xs : List β} {e : β → VP} {k : Int} (h1 : IsO Γ t (xs.map e)) : O2M K Γ rRep t (.dat (eI k)) (repL xs k) (fun c => .own none (.lst (c.map e))) := At.part2 fun hc => fun g σ τ H x y Q ⟨S, h⟩ kk => by
  simp only [Bool.and_eq_true, decide_eq_true_eq] at hc
  obtain ⟨⟨h1', h2⟩, h3⟩ := hc
  obtain ⟨a, vs, rfl, k2, k3⟩ := h.isO (List.mem_cons_of_mem _ List.mem_cons_self) h1
  have hl : vs.length = xs.length := by rw [k3.len, List.length_map]
  refine ⟨a, k, vs, rfl, h.top.i, k2, by omega, by omega, ?_, fun p hn => kk _ _ ⟨S, h.pop.pop.fresh hn ⟨_, rfl, ?_⟩⟩⟩
  · have a1 : vs.length * k.toNat ≤ 1000 * 1000 := Nat.mul_le_mul (by omega) (by omega)
    rw [sizeLine_eq]
    omega
  · rw [rep_map]
    exact hds_rep k3 k.toNat
end
section
variable {K : PySem.W.Frag} {ρ lam α β γ : Type} {Γ : List (Option Tm)} {g : Gh} {H : Hp} {σ : L2.St} {τ : List (V × Tm)} {v : V} {N : α → Prop} {T : ρ → Prop} {B C : lam → Prop} {E : Er → Prop}
theorem unp2_out {d : PyData} {f : PyData × PyData → O ρ lam α} (h : Out (bindR (unp2 d) f) N T B C E) : ∃ a b, (d = .list [a, b] ∨ d = .tuple [a, b]) ∧ Out (f (a, b)) N T B C E := by
  cases d with
  | list xs =>
    match xs, h with
    | [a, b], h => exact ⟨a, b, .inl rfl, h⟩
    | [], h => exact h.elim
    | [_], h => exact h.elim
    | _ :: _ :: _ :: _, h => exact h.elim
  | tuple xs =>
    match xs, h with
    | [a, b], h => exact ⟨a, b, .inr rfl, h⟩
    | [], h => exact h.elim
    | [_], h => exact h.elim
    | _ :: _ :: _ :: _, h => exact h.elim
  | _ => exact h.elim
theorem f_unp2 {d : PyData} {f : PyData × PyData → O ρ lam α} {P : Prop} (hA : At K g Γ σ ((v, .dat (eD d)) :: τ) H) (hm : Out (bindR (unp2 d) f) N T B C E) (k : ∀ q, At K g Γ σ ((v, .dat (eW [eD q.1, eD q.2])) :: τ) H → Out (f q) N T B C E → P) : P := by
  obtain ⟨a, b, h | h, q⟩ := unp2_out hm
  · subst h
    exact k (a, b) (hA.box fun v S q => eW_l (eD_list q)) q
  · subst h
    exact k (a, b) (hA.box fun v S q => eW_t (eD_tup q)) q
end
/-! ### a text in a row of texts; tuples of texts that stand at the top -/
section
variable {K : PySem.W.Frag} {Γ : List (Option Tm)} {u : Tm}
theorem hds_strs {S : Hp} : ∀ {xs : List Str} {vs : List V}, Hds K S (xs.map eS) vs → vs = xs.map V.str
  | [], _, .nil => rfl
  | x :: xs, _, .cons r t => by rw [show _ = V.str x from r.s, hds_strs t]; rfl
theorem strs_hds {S : Hp} : ∀ (xs : List Str), Hds K S (xs.map eS) (xs.map V.str)
  | [] => .nil
  | x :: xs => .cons (.of rfl) (strs_hds xs)
theorem inV_strs (s : Str) : ∀ xs : List Str, inV (.str s) (xs.map V.str) = decide (s ∈ xs)
  | [] => rfl
  | x :: xs => by
    have ih := inV_strs s xs
    unfold inV at ih ⊢
    rw [List.map_cons, List.any_cons, ih]
    have e : eqV (.str x) (.str s) = decide (x = s) := rfl
    rw [e]
    by_cases h : x = s
    · subst h; simp
    · simp [h, Ne.symm h]
theorem flat_strs : ∀ xs : List Str, (xs.map V.str).all flatV = true
  | [] => rfl
  | x :: xs => by rw [List.map_cons, List.all_cons, flat_strs xs]; rfl
theorem o2_inS {s : Str} {xs : List Str} (hq : IsQ Γ u (xs.map eS)) : O2 K Γ (rIn K false) (.dat (eS s)) u (.dat (eB (decide (s ∈ xs)))) := fun g σ τ H x y Q ⟨S, h⟩ k => by
  obtain ⟨a, vs, rfl, h2, h3⟩ := h.isQ List.mem_cons_self hq
  have e := h.pop.top
  have ex : x = .str s := Hd.s e
  rw [hds_strs h3] at h2
  subst ex
  exact ⟨a, _, rfl, h2, rfl, flat_strs xs, by rw [inV_strs]; exact k _ _ ⟨S, h.pop.pop.push (.of rfl)⟩⟩
theorem o2_ninS {s : Str} {xs : List Str} (hq : IsQ Γ u (xs.map eS)) : O2 K Γ (rIn K true) (.dat (eS s)) u (.dat (eB (!decide (s ∈ xs)))) := fun g σ τ H x y Q ⟨S, h⟩ k => by
  obtain ⟨a, vs, rfl, h2, h3⟩ := h.isQ List.mem_cons_self hq
  have e := h.pop.top
  have ex : x = .str s := Hd.s e
  rw [hds_strs h3] at h2
  subst ex
  exact ⟨a, _, rfl, h2, rfl, flat_strs xs, by rw [inV_strs]; exact k _ _ ⟨S, h.pop.pop.push (.of rfl)⟩⟩
theorem ev_gtup {a : Addr} {xs : List Str} (h : ∀ H, SqT K H a (xs.map V.str)) : EV K Γ (tC (.ref a)) (.dat (eT eS xs)) := fun g σ τ H Q ⟨S, hA⟩ k =>
  k _ _ ⟨S, hA.push ⟨S, Same.refl S, a, _, rfl, h S, strs_hds xs⟩⟩
end
theorem sqT_K {K : PySem.W.Frag} {H : Hp} {a : Addr} {dd : Option Addr} {its : Array Value} {n : Nat} {sl : Array (Option Value)} {xs : List V} (h : K.lookup a = some ⟨.type "tuple", dd, .seq its n, sl⟩) (hz : its.size ≤ sizeLine) (hv : Vals xs its.toList) : SqT K H a xs :=
  .inr ⟨_, its, n, h, rfl, rfl, hz, hv⟩
end Gv

set_option Elab.async false
set_option linter.all false
set_option maxRecDepth 100000
set_option maxHeartbeats 4000000
/-! Gv: keyword-only parameters -/
namespace Gv
open PySem L2
structure KwB (K : PySem.W.Frag) (fd : FuncData) (ps : List Str) (n : Nat) (ks : List Str) : Prop where
  to : ∀ (s : Shared) (us ws : List Value), us.length = n → ws.length = ks.length → BindsTo s fd ⟨us, ks.zip ws⟩ (ps.zip (us ++ ws))
structure DfK (K : PySem.W.Frag) (mg : Str → Option Value) (x : Str) (st : Stmt) (f : Addr) (fd : FuncData) (pn : List Str) (n : Nat) (ks : List Str) : Prop where
  F : Fun K x x st f fd
  g : mg x = some (.ref f)
  b : KwB K fd pn n ks
def tCallKS (n m : Nat) (sp : Sp) (E : St → XK) (t tk : TA) : TE := fun σ H Q => t σ H fun vs H1 => tk σ H1 fun zs H2 => vs.length = n ∧ zs.length = m ∧ sp (vs ++ zs) H2 Q (E σ)
section
variable {X : Cx} {CX : CXT} {k n : Nat} {f : Addr} {fd : FuncData} {ps ks : List Str} {sp : Sp} {E : St → XK} {x : Str} {p pos : Pos} {e : Expr} {es : List Expr} {kws : List Keyword} {t tk : TA}
theorem run_fnKS {pins : List (Addr × Obj)} {σ : St} {H : Hp} {s : Shared} {Q : VK} {us ws : List Value} {vs zs : List V} (F : FnOk X.prog X.w X.K X.mg X.base CX k f fd ps sp) (hr : Room k X.A) (hb : KwB X.K fd ps n ks) (hx : PassesAt CX X σ (E σ))
    (I : Inv X pins σ H s) (r : Vals vs us) (rz : Vals zs ws) (l1 : vs.length = n) (l2 : zs.length = ks.length) (h : sp (vs ++ zs) H Q (E σ)) : wpAny (model X.prog X.w) X.A (call (.ref f) us (ks.zip ws)) (EP X pins σ Q) X.xe s := by
  have r2 := r.append rz
  refine wpAny_call (codeAny_mono (F.run X.A X.stack s H ⟨us, ks.zip ws⟩ (us ++ ws) (vs ++ zs) Q (E σ) hr I.env0 (hb.to s us ws (r.length.symm.trans l1) (rz.length.symm.trans l2)) r2 h) fun r s' hq => ?_)
  cases r with
  | error e => exact hx pins H s e s' I hq
  | ok fl =>
    cases fl with
    | ret u => exact I.after hq
    | next => exact False.elim hq
    | brk => exact False.elim hq
    | cont => exact False.elim hq
theorem pe_callKS (F : FnOk X.prog X.w X.K X.mg X.base CX k f fd ps sp) (hr : Room k X.A) (hg : Gl X x) (hm : X.mg x = some (.ref f)) (hk : PySem.W.keepIn X.K (.ref f) = true) (hb : KwB X.K fd ps n ks) (hx : ∀ σ, PassesAt CX X σ (E σ))
    (ha : PA X (e :: es) t) (hkw : PK X kws tk) (hall : (backToKw pos (keywordEach kws X.env)).all (·.1.isSome) = true := by rfl) (hks : (backToKw pos (keywordEach kws X.env)).filterMap (·.1) = ks := by rfl)
    (hdb : (x == ("__debug__" : Str)) = false := by decide) (he : starEach (e :: es) X.env = (false, eval e X.env) :: starEach es X.env := by rfl)
    (hpl : ((backTo pos (starEach (e :: es) X.env)).any (·.1) || (backToKw pos (keywordEach kws X.env)).any (·.1.isNone)) = false := by rfl) :
    PE X (.Call (.Name x p) (e :: es) kws pos) (tCallKS n ks.length sp E t tk) := by
  refine ⟨fun pins s σ H Q I h => ?_⟩
  refine wpAny_Call_Name_kw (ld_glob I hg hm ?_ hdb)
  refine PySem.W.callWith_KW (h₀ := X.base) I.ok.mod.kin hk hall (thn (ha.run pos pins s σ H _ I h) fun us s1 ⟨vs, H1, I1, r, q⟩ => ?_) hpl he
  refine thn (hkw.run pos pins s1 σ H1 _ I1 q) fun ws s2 ⟨zs, H2, I2, rz, l1, l2, q2⟩ => ⟨I2.kIn, ?_⟩
  rw [hks]
  exact run_fnKS F hr hb (hx σ) I2 r rz l1 l2 q2
end
section
variable {σ : St} {H : Hp} {Q : VK} {ta tb tc td : TE} {sp : Sp} {EW : St → XK}
theorem x_callK1 (h : ta σ H fun x H1 => tb σ H1 fun y H2 => [x].length = 1 ∧ [y].length = 1 ∧ sp [x, y] H2 Q (EW σ)) : tCallKS 1 1 sp EW (tCons ta tNil) (tCons tb tNil) σ H Q := h
theorem x_callK2 (h : ta σ H fun x H1 => tb σ H1 fun y H2 => tc σ H2 fun z H3 => [x, y].length = 2 ∧ [z].length = 1 ∧ sp [x, y, z] H3 Q (EW σ)) : tCallKS 2 1 sp EW (tCons ta (tCons tb tNil)) (tCons tc tNil) σ H Q := h
theorem x_callD1 {i : Int} (h : ta σ H fun x H1 => sp [x, .int i] H1 Q (EW σ)) : tCallSD sp [.int i] EW (tCons ta tNil) σ H Q := h
end
section
variable {K : PySem.W.Frag} {ρ lam α : Type} {Γ : List (Option Tm)} {g : Gh} {H : Hp} {σ : St} {τ : List (V × Tm)} {v : V} {N : α → Prop} {T : ρ → Prop} {B C : lam → Prop} {E : Er → Prop} {P : Prop}
theorem f_str1 {d : PyData} {f : Str → O ρ lam α} {w : V} {s : Tm} (hA : At K g Γ σ ((w, s) :: (v, .dat (eD d)) :: τ) H) (hm : Out (bindR (strD d) f) N T B C E) (k : ∀ i, At K g Γ σ ((w, s) :: (v, .dat (eS i)) :: τ) H → Out (f i) N T B C E → P) : P := by
  cases d with
  | str i =>
    refine k i ?_ hm
    obtain ⟨S, h⟩ := hA
    refine ⟨S, ?_⟩
    have p : ((w, s) :: (v, Tm.dat (eD (PyData.str i))) :: τ).Perm ((v, Tm.dat (eD (PyData.str i))) :: (w, s) :: τ) := .swap _ _ _
    have h2 := h.perm p
    have q : Hd K (eS i) v S := by
      obtain ⟨S0, e, q⟩ := h2.top
      have q : Dp K S0 v (.str i) := q
      cases q
      exact .of rfl
    exact (h2.pop.push q).perm (.swap _ _ _)
  | _ => exact hm.elim
theorem At.pushI (i : Int) (h : At K g Γ σ τ H) : At K g Γ σ ((.int i, .dat (eI i)) :: τ) H := by
  obtain ⟨S, h⟩ := h
  exact ⟨S, h.push (.of rfl)⟩
end
/-! ### + of lists of any standing -/
def rCatS (K : PySem.W.Frag) : R2 := fun x y H Q => ∃ l b xs zs, x = .ref l ∧ y = .ref b ∧ SqL K H l xs ∧ SqL K H b zs ∧ xs.length + zs.length ≤ sizeLine ∧ ∀ p, H p = none → Q (.ref p) (upd H p (.lst (xs ++ zs)))
open PyProof.Rows in
theorem op_catS {X : Cx} : OpR X (binaryOp .Add) (rCatS X.K) := by
  intro pins s σ H x y v u Q I rx ry h
  obtain ⟨l, b, xs, zs, rfl, rfl, hH, hB, hz, q⟩ := h
  cases rx
  cases ry
  obtain ⟨its, r, pl, hl⟩ := I.list hH
  obtain ⟨its2, r2, pl2, hl2⟩ := I.list hB
  obtain ⟨⟨cls, dd, data, sl⟩, ho, hc, n, hd⟩ := pl.isList
  obtain ⟨⟨cls2, dd2, data2, sl2⟩, ho2, hc2, n2, hd2⟩ := pl2.isList
  simp only at hc hd hc2 hd2
  subst hc hd hc2 hd2
  have e : its.toArray ++ its2.toArray = (its ++ its2).toArray := by simp
  have e1 := r.length
  have e2 := r2.length
  refine PySem.concat_meets ⟨_, ho, rfl⟩ ⟨_, ho2, rfl⟩ PySem.noFill_list_add PySem.seq_list_add PySem.F.slot_list_add PySem.F.entry_list_add (PySem.F.args_list_add_2 _ _) (list_addW l b its.toArray its2.toArray n n2 dd dd2 sl sl2 (by rw [List.size_toArray, List.size_toArray, ← e1, ← e2]; exact hz)) ⟨ho, ho2, ?_⟩
  rw [e]
  exact ⟨.ref s.heap.objs.size, _, I.laid (t' := s.toks) (o := .lst (xs ++ zs)) (fun b ob q => Heap.get?_push_of_some _ q) (Nat.le_refl _) ⟨by rw [List.length_append]; exact hz, _, _, r.append r2, Heap.get?_push_size _ rfl⟩, rfl, q _ (I.hok.fresh (Nat.le_refl _))⟩
theorem o2_catS {K : PySem.W.Frag} {Γ : List (Option Tm)} {α : Type} {e : α → VP} {t u : Tm} {xs ys : List α} (h1 : IsL Γ t (xs.map e)) (h2 : IsL Γ u (ys.map e)) : O2M K Γ (rCatS K) t u (catR xs ys) (fun c => .own none (.lst (c.map e))) := At.part2 fun hz => fun g σ τ H x y Q ⟨S, h⟩ k => by
  obtain ⟨a, vs, rfl, a2, a3⟩ := h.isL (List.mem_cons_of_mem _ List.mem_cons_self) h1
  obtain ⟨b, ws, rfl, b2, b3⟩ := h.isL List.mem_cons_self h2
  have hz' : xs.length + ys.length ≤ 1000000 := of_decide_eq_true hz
  refine ⟨a, b, vs, ws, rfl, rfl, a2, b2, ?_, fun p hn => k _ _ ⟨S, h.pop.pop.fresh hn ⟨_, rfl, ?_⟩⟩⟩
  · rw [a3.len, b3.len, List.length_map, List.length_map]; exact le_line hz'
  · rw [List.map_append]; exact a3.append b3
theorem boxL2 {K : PySem.W.Frag} {α β : Type} {e1 : α → VP} {d1 : α → PyData} {e2 : β → VP} {d2 : β → PyData} (h1 : Bx e1 d1) (h2 : Bx e2 d2) {a : α} {b : β} (v : V) (S : Hp) (h : Hd K (rL [e1 a, e2 b]) v S) : Hd K (eL eD [d1 a, d2 b]) v S := by
  obtain ⟨p, vs, rfl, q, hd⟩ := Hd.l h
  cases hd with
  | cons x1 r1 =>
    cases r1 with
    | cons x2 r2 =>
      cases r2
      exact .of ⟨p, _, rfl, q, .cons (.of (h1 K a _ S x1)) (.cons (.of (h2 K b _ S x2)) .nil)⟩
def tupD : PyData → R (List PyData)
  | .tuple xs => .nx xs
  | _ => .stuck
theorem f_tupD {K : PySem.W.Frag} {ρ lam α : Type} {Γ : List (Option Tm)} {g : Gh} {H : Hp} {σ : St} {τ : List (V × Tm)} {v : V} {N : α → Prop} {T : ρ → Prop} {B C : lam → Prop} {E : Er → Prop} {P : Prop} {d : PyData} {f : List PyData → O ρ lam α} (hA : At K g Γ σ ((v, .dat (eD d)) :: τ) H) (hm : Out (bindR (tupD d) f) N T B C E) (k : ∀ xs, At K g Γ σ ((v, .dat (eT eD xs)) :: τ) H → Out (f xs) N T B C E → P) : P := by
  cases d with
  | tuple xs => exact k xs (hA.box fun v S q => eD_tup q) hm
  | _ => exact hm.elim
end Gv

set_option Elab.async false
set_option linter.all false
set_option maxRecDepth 100000
set_option maxHeartbeats 4000000
/-! Gv: texts sign by sign, joined, compared; pairs of two walks -/
namespace Gv
open PySem L2 RZ
section
variable {K : PySem.W.Frag} {Γ : List (Option Tm)}
def rAddS : R2 := fun x y H Q => ∃ i j, x = .str i ∧ y = .str j ∧ i.length + j.length ≤ sizeLine ∧ Q (.str (i ++ j)) H
def rGeS : R2 := fun x y H Q => ∃ i j, x = .str i ∧ y = .str j ∧ Q (.bl (!decide (i.cps.toList < j.cps.toList))) H
def rInSg : R2 := fun x y H Q => ∃ (c : Nat) (z : Str), x = .str ⟨#[c]⟩ ∧ y = .str z ∧ Q (.bl (decide (c ∈ z.cps.toList))) H
def rNinSg : R2 := fun x y H Q => ∃ (c : Nat) (z : Str), x = .str ⟨#[c]⟩ ∧ y = .str z ∧ Q (.bl (!decide (c ∈ z.cps.toList))) H
def rLenS : List V → Hp → VK → Prop := fun xs H Q => ∃ z, xs = [.str z] ∧ z.length ≤ sizeLine ∧ Q (.int z.length) H
theorem p_addS {X : Cx} : OpR X (binaryOp .Add) rAddS := op_add_str
theorem p_geS {X : Cx} : OpR X (compareOp .GtE) rGeS := op_ge_str
theorem p_inSg {X : Cx} : OpR X (compareOp .In) rInSg := op_in_sign
theorem p_ninSg {X : Cx} : OpR X (compareOp .NotIn) rNinSg := op_notIn_sign
theorem c_lenS {X : Cx} : CallR X (.builtin "len") rLenS := call_len_str
def addS (a b : Str) : R Str := gd (decide (a.length + b.length ≤ 1000000)) (a ++ b)
theorem o2_addS {a b : Str} : O2M K Γ rAddS (.dat (eS a)) (.dat (eS b)) (addS a b) (fun c => .dat (eS c)) := At.part2 fun h => At.scal2 (fun S v w h1 h2 H Q k => ⟨a, b, h1.s, h2.s, le_line (of_decide_eq_true h), k⟩) fun _ => rfl
def geS (a b : Str) : Bool := !decide (a.cps.toList < b.cps.toList)
theorem o2_geS {a b : Str} : O2 K Γ rGeS (.dat (eS a)) (.dat (eS b)) (.dat (eB (geS a b))) := At.scal2 (fun S v w h1 h2 H Q k => ⟨a, b, h1.s, h2.s, k⟩) fun _ => rfl
def lenS (a : Str) : R Int := gd (decide (a.length ≤ 1000000)) (a.length : Int)
theorem o1_lenS {a : Str} : O1M K Γ (fun x => rLenS [x]) (.dat (eS a)) (lenS a) (fun c => .dat (eI c)) := At.part1 fun h => At.scal1 (fun S v h1 H Q k => ⟨a, by rw [h1.s], le_line (of_decide_eq_true h), k⟩) fun _ => rfl
/-- a sign of a text -/
def chR (z : Str) (i : Int) : R Str := match atI z.cps.toList i with
  | some c => gd (decide (z.length ≤ 1000000)) ⟨#[c]⟩
  | none => .stuck
theorem o2_chS {z : Str} {i : Int} : O2M K Γ rIxS (.dat (eS z)) (.dat (eI i)) (chR z i) (fun c => .dat (eS c)) := by
  unfold chR
  cases e : atI z.cps.toList i with
  | none => exact fun g σ τ H x y Q E hA hm => hm.elim
  | some c => exact At.part2 fun h => At.scal2 (fun S v w h1 h2 H Q k => ⟨z, i, c, h1.s, h2.i, le_line (of_decide_eq_true h), e, k⟩) fun _ => rfl
/-- a sign in a text -/
def sgR (x z : Str) : R Bool := match x.cps.toList with
  | [c] => .nx (decide (c ∈ z.cps.toList))
  | _ => .stuck
theorem sg_one {x : Str} {c : Nat} (h : x.cps.toList = [c]) : x = ⟨#[c]⟩ := by
  obtain ⟨a⟩ := x
  have : a = #[c] := by rw [← Array.toList_inj]; exact h
  rw [this]
theorem o2_inSg {x z : Str} : O2M K Γ rInSg (.dat (eS x)) (.dat (eS z)) (sgR x z) (fun c => .dat (eB c)) := fun g σ τ H v w Q E hA hm => by
  unfold sgR at hm
  split at hm
  · rename_i c e
    have e2 := sg_one e
    subst e2
    exact At.scal2 (p := eS _) (fun S v w h1 h2 H Q k => ⟨c, z, h1.s, h2.s, k⟩) (fun _ => rfl) g σ τ H v w Q hA hm
  · exact hm.elim
theorem o2_ninSg {x z : Str} : O2M K Γ rNinSg (.dat (eS x)) (.dat (eS z)) (sgR x z) (fun c => .dat (eB (!c))) := fun g σ τ H v w Q E hA hm => by
  unfold sgR at hm
  split at hm
  · rename_i c e
    have e2 := sg_one e
    subst e2
    exact At.scal2 (p := eS _) (fun S v w h1 h2 H Q k => ⟨c, z, h1.s, h2.s, k⟩) (fun _ => rfl) g σ τ H v w Q hA hm
  · exact hm.elim
end
section
variable {K : PySem.W.Frag} {ρ lam α β γ : Type} {X : Fx ρ} {Γ : List (Option Tm)} {g : Gh} {H : Hp} {σ : St} {τ : List (V × Tm)} {v x y : V} {N : α → Prop} {T : ρ → Prop} {B C : lam → Prop} {E : Er → Prop} {Rk : It → Hp → Prop} {e : β → VP} {xs : List β} {e2 : γ → VP} {ys : List γ}
/-! ### a text walked -/
def signs (z : Str) : List Str := z.cps.toList.map fun c => ⟨#[c]⟩
theorem wk_str {z : Str} (hA : At K g Γ σ ((v, .dat (eS z)) :: τ) H) (hm : WK K g Γ σ τ (signs z) eS Rk) : ∃ x, v = .str x ∧ Rk (Its x) H := by
  obtain ⟨S, h⟩ := hA
  refine ⟨z, h.top.s, hm (Its z) (fun _ => True) _ S H (by rw [show (signs z).length = z.cps.size by simp [signs]]; exact walk_str) h.base.s0 h.base.fs ⟨S, h.pop.reS⟩ (fun _ _ _ => True.intro) fun i b x H1 H2 Γ' σ' τ' hb hy hA2 => ?_⟩
  obtain ⟨rfl, c, hc, rfl⟩ := hy
  refine hA2.scal fun _ => ?_
  have hb' : (z.cps.toList.map fun c => (⟨#[c]⟩ : Str))[i]? = some b := hb
  rw [List.getElem?_map, Array.getElem?_toList, hc] at hb'
  have : b = ⟨#[c]⟩ := (Option.some.inj hb').symm
  rw [this]
  rfl
variable {tg : TG} {tb' us : TS} {D : Ends} {tl ta tb : TE} {tt : TT} {vs : List Nat} {Q : VK} {te : TE}
theorem x_forS (h : tl σ H fun v H1 => ∃ x, v = .str x ∧ FR tg tb' us D σ (Its x) H1) : tSeq (tFor (iStr tl) tg tb') us D σ H := h
/-! ### two walked together -/
theorem walk_zipT {a b : Addr} {vs ws : List V} {n : Nat} (hn : n = min vs.length ws.length) : Walk (ItzT K a b) n (fun H => SqT K H a vs ∧ SqT K H b ws) (YPair (fun i => vs[i]?) (fun i => ws[i]?)) := by
  subst hn
  refine ⟨fun i _ hi q => ?_, fun _ q => ⟨vs, ws, q.1, q.2, by omega⟩, fun i H v H' _ q y => ?_⟩
  · have h1 : i < vs.length := by omega
    have h2 : i < ws.length := by omega
    exact ⟨vs, ws, vs[i], ws[i], q.1, q.2, List.getElem?_eq_getElem h1, List.getElem?_eq_getElem h2⟩
  · obtain ⟨T, x, y, h1, h2, h3, h4, h5⟩ := y
    exact ⟨T, x, y, h1, h2, h3, h4 vs q.1, h5 ws q.2⟩
theorem zip_yield {S : Hp} {vs ws : List V} (h3 : Hds K S (xs.map e) vs) (k3 : Hds K S (ys.map e2) ws) (hS : Same S g.S0) : ∀ (i : Nat) (b : β × γ) (x : V) (H1 H2 : Hp) (Γ' : List (Option Tm)) (σ' : St) (τ' : List (V × Tm)), (xs.zip ys)[i]? = some b →
    YPair (fun i => vs[i]?) (fun i => ws[i]?) i H1 x H2 → At K g Γ' σ' τ' H1 → At K g Γ' σ' ((x, .dat (eP2 e e2 b)) :: τ') H2 := fun i b x H1 H2 Γ' σ' τ' hb hy ⟨S2, hA2⟩ => by
  obtain ⟨T, y, w, rfl, hn, rfl, q1, q2⟩ := hy
  have q1' : vs[i]? = some y := q1
  have q2' : ws[i]? = some w := q2
  rw [List.getElem?_zip_eq_some] at hb
  obtain ⟨w1, u3, u4⟩ := h3.get (show (xs.map e)[i]? = some (e b.1) by rw [List.getElem?_map, hb.1]; rfl)
  obtain ⟨w2, t3, t4⟩ := k3.get (show (ys.map e2)[i]? = some (e2 b.2) by rw [List.getElem?_map, hb.2]; rfl)
  rw [q1'] at u3
  cases u3
  rw [q2'] at t3
  cases t3
  exact hA2.newT hn (ps := [e b.1, e2 b.2]) (.cons ((u4.mono hS).mono hA2.base.s0) (.cons ((t4.mono hS).mono hA2.base.s0) .nil))
def ZipR (K : PySem.W.Frag) (R : It → Hp → Prop) (us : List V) (H1 : Hp) : Prop := ∃ a b xs ys, us = [.ref a, .ref b] ∧ ((SqL K H1 a xs ∧ SqL K H1 b ys ∧ R (Itz K a b) H1) ∨ (SqT K H1 a xs ∧ SqT K H1 b ys ∧ R (ItzT K a b) H1))
theorem wk_zipL (hA : At K g Γ σ ((y, .dat (eL e2 ys)) :: (x, .dat (eL e xs)) :: τ) H) (hm : WK K g Γ σ τ (xs.zip ys) (eP2 e e2) Rk) : ZipR K Rk [x, y] H := by
  obtain ⟨S, h⟩ := hA
  obtain ⟨b, ws, rfl, k2, k3⟩ := Hd.l h.top
  obtain ⟨a, vs, rfl, h2, h3⟩ := Hd.l h.pop.top
  have l1 : vs.length = xs.length := by rw [h3.len, List.length_map]
  have l2 : ws.length = ys.length := by rw [k3.len, List.length_map]
  exact ⟨a, b, vs, ws, rfl, .inl ⟨h.base.sh.seq h2, h.base.sh.seq k2, hm (Itz K a b) (fun H => SqL K H a vs ∧ SqL K H b ws) _ S H (walk_zip (by rw [List.length_zip, l1, l2])) h.base.s0 h.base.fs ⟨S, h.pop.pop.reS⟩ (fun S2 H2 B => ⟨B.reS.seq h2, B.reS.seq k2⟩) (zip_yield h3 k3 (Same.refl _))⟩⟩
theorem wk_zipT (hA : At K g Γ σ ((y, .dat (eT e2 ys)) :: (x, .dat (eT e xs)) :: τ) H) (hm : WK K g Γ σ τ (xs.zip ys) (eP2 e e2) Rk) : ZipR K Rk [x, y] H := by
  obtain ⟨S, h⟩ := hA
  obtain ⟨b, ws, rfl, k2, k3⟩ := Hd.t h.top
  obtain ⟨a, vs, rfl, h2, h3⟩ := Hd.t h.pop.top
  have l1 : vs.length = xs.length := by rw [h3.len, List.length_map]
  have l2 : ws.length = ys.length := by rw [k3.len, List.length_map]
  exact ⟨a, b, vs, ws, rfl, .inr ⟨same_t h.base.sh h2, same_t h.base.sh k2, hm (ItzT K a b) (fun H => SqT K H a vs ∧ SqT K H b ws) _ S H (walk_zipT (by rw [List.length_zip, l1, l2])) h.base.s0 h.base.fs ⟨S, h.pop.pop.reS⟩ (fun S2 H2 B => ⟨same_t B.reS h2, same_t B.reS k2⟩) (zip_yield h3 k3 (Same.refl _))⟩⟩
def zipD (a b : PyData) : R (List (PyData × PyData)) := match a, b with
  | .tuple xs, .tuple ys => .nx (xs.zip ys)
  | .list xs, .list ys => .nx (xs.zip ys)
  | _, _ => .stuck
theorem At.box1 {p q : VP} {t : Tm} (hb : ∀ v S, Hd K p v S → Hd K q v S) (h : At K g Γ σ ((y, t) :: (x, .dat p) :: τ) H) : At K g Γ σ ((y, t) :: (x, .dat q) :: τ) H := by
  obtain ⟨S, h⟩ := h
  have h2 := h.perm (.swap _ _ _)
  exact ⟨S, (h2.pop.push (hb _ _ h2.top)).perm (.swap _ _ _)⟩
theorem wk_zipD {a b : PyData} {F : List (PyData × PyData) → O ρ lam α} (hA : At K g Γ σ ((y, .dat (eD b)) :: (x, .dat (eD a)) :: τ) H) (hm : Out (bindR (zipD a b) F) N T B C E) (k : ∀ xs, Out (F xs) N T B C E → WK K g Γ σ τ xs (eP2 eD eD) Rk) : ZipR K Rk [x, y] H := by
  cases a with
  | tuple xs =>
    cases b with
    | tuple ys => exact wk_zipT ((hA.box fun v S q => eD_tup q).box1 fun v S q => eD_tup q) (k _ hm)
    | _ => exact hm.elim
  | list xs =>
    cases b with
    | list ys => exact wk_zipL ((hA.box fun v S q => eD_list q).box1 fun v S q => eD_list q) (k _ hm)
    | _ => exact hm.elim
  | _ => exact hm.elim
theorem x_forZ (h : ta σ H fun x H1 => tb σ H1 fun y H2 => ZipR K (FR tg tb' us D σ) [x, y] H2) : tSeq (tFor (iZipA K (tCons ta (tCons tb tNil))) tg tb') us D σ H := h
end
end Gv

set_option Elab.async false
set_option linter.all false
set_option maxRecDepth 100000
set_option maxHeartbeats 4000000
/-! Gv: sorted texts, list(range), len(set(..)), index, pop(i), lists of data -/
namespace Gv
open PySem PySem.Spec L2 RZ PyProof.Rows
/-! ### sorted texts -/
abbrev leS (a b : Str) : Prop := ¬ b.cps.toList < a.cps.toList
theorem leS_trans {a b c : Str} (h1 : leS a b) (h2 : leS b c) : leS a c := List.le_trans (l₁ := a.cps.toList) (l₂ := b.cps.toList) (l₃ := c.cps.toList) h1 h2
theorem leS_anti {a b : Str} (h1 : leS a b) (h2 : leS b a) : a = b := by
  have e : a.cps.toList = b.cps.toList := List.le_antisymm h1 h2
  obtain ⟨x⟩ := a
  obtain ⟨y⟩ := b
  have : x = y := Array.toList_inj.mp e
  rw [this]
theorem leS_total (a b : Str) : leS a b ∨ leS b a := List.le_total a.cps.toList b.cps.toList
def insS (x : Str) : List Str → List Str
  | [] => [x]
  | y :: ys => if y.cps.toList < x.cps.toList then y :: insS x ys else x :: y :: ys
def sortS : List Str → List Str
  | [] => []
  | x :: xs => insS x (sortS xs)
theorem insS_perm (x : Str) : ∀ l : List Str, (insS x l).Perm (x :: l)
  | [] => .refl _
  | y :: ys => by
    unfold insS
    split
    · exact ((insS_perm x ys).cons y).trans (.swap _ _ _)
    · exact .refl _
theorem sortS_perm : ∀ l : List Str, (sortS l).Perm l
  | [] => .refl _
  | x :: xs => (insS_perm x (sortS xs)).trans ((sortS_perm xs).cons x)
theorem insS_sorted (x : Str) : ∀ l : List Str, l.Pairwise leS → (insS x l).Pairwise leS
  | [], _ => List.pairwise_singleton _ _
  | y :: ys, h => by
    obtain ⟨h1, h2⟩ := List.pairwise_cons.mp h
    unfold insS
    split
    · rename_i e
      refine List.pairwise_cons.mpr ⟨fun z hz => ?_, insS_sorted x ys h2⟩
      rcases List.mem_cons.mp ((insS_perm x ys).mem_iff.mp hz) with rfl | hz
      · exact (leS_total y z).resolve_right fun h => h e
      · exact h1 z hz
    · rename_i e
      refine List.pairwise_cons.mpr ⟨fun z hz => ?_, h⟩
      rcases List.mem_cons.mp hz with rfl | hz
      · exact e
      · exact leS_trans e (h1 z hz)
theorem sortS_sorted : ∀ l : List Str, (sortS l).Pairwise leS
  | [] => .nil
  | x :: xs => insS_sorted x _ (sortS_sorted xs)
theorem leS_uniq : ∀ {l m : List Str}, l.Perm m → l.Pairwise leS → m.Pairwise leS → l = m
  | [], m, p, _, _ => (List.Perm.nil_eq p)
  | x :: l, [], p, _, _ => absurd p.length_eq (by simp)
  | x :: l, y :: m, p, hl, hm => by
    obtain ⟨l1, l2⟩ := List.pairwise_cons.mp hl
    obtain ⟨m1, m2⟩ := List.pairwise_cons.mp hm
    have e : x = y := by
      rcases List.mem_cons.mp (p.mem_iff.mp List.mem_cons_self) with e | hx
      · exact e
      · rcases List.mem_cons.mp (p.mem_iff.mpr List.mem_cons_self) with e | hy
        · exact e.symm
        · exact leS_anti (l1 y hy) (m1 x hx)
    subst e
    rw [leS_uniq p.cons_inv l2 m2]
theorem rising_pw : ∀ {p : Str} {l : List Str}, risingS p l = true → (p :: l).Pairwise leS
  | _, [], _ => List.pairwise_singleton _ _
  | p, x :: r, h => by
    have h' : (!ltCps x.cps.toList p.cps.toList && risingS x r) = true := h
    rw [Bool.and_eq_true, ltCps_eq] at h'
    have a : leS p x := by simpa using h'.1
    have b := rising_pw h'.2
    refine List.pairwise_cons.mpr ⟨fun z hz => ?_, b⟩
    rcases List.mem_cons.mp hz with rfl | hz
    · exact a
    · exact leS_trans a ((List.pairwise_cons.mp b).1 z hz)
theorem sortedS_pw {l : List Str} (h : sortedS l = true) : l.Pairwise leS := by
  cases l with
  | nil => exact .nil
  | cons x r => exact rising_pw h
section
variable {K : PySem.W.Frag} {ρ lam α β γ : Type} {X : Fx ρ} {Γ : List (Option Tm)} {g : Gh} {H : Hp} {σ : L2.St} {τ : List (V × Tm)} {v x y : V} {t u z : Tm} {i : Nat} {N : α → Prop} {T : ρ → Prop} {B C : lam → Prop} {E : Er → Prop} {Q : VK} {ta tb te : TE} {P : Prop}
theorem o1_sortedS {xs : List Str} (hl : IsL Γ t (xs.map eS)) : O1M K Γ (fun x => rSortedS K [x]) t (gd (decide (xs.length < 64)) (sortS xs)) (fun c => .own none (.lst (c.map eS))) := At.part1 fun hc => fun g σ τ H x Q ⟨S, h⟩ k => by
  obtain ⟨a, vs, rfl, h2, h3⟩ := h.isL List.mem_cons_self hl
  rw [hds_strs h3] at h2
  refine ⟨a, xs, rfl, h2, of_decide_eq_true hc, fun ys p hp hs hn => ?_⟩
  have e : ys = sortS xs := leS_uniq (hp.trans (sortS_perm xs).symm) (sortedS_pw hs) (sortS_sorted xs)
  subst e
  exact k _ _ ⟨S, h.pop.fresh hn ⟨_, rfl, strs_hds _⟩⟩
/-! ### list(range(n)) -/
def lrgR (n : Int) : R (List Int) := gd (decide (-16777216 ≤ n) && decide (n ≤ 16777216)) (rangeL 0 n)
theorem rg_hds {S : Hp} (n : Int) : Hds K S ((rangeL 0 n).map eI) (rgV 0 n) := by
  have e : rgV 0 n = (rangeL 0 n).map V.int := by
    unfold rgV rangeL
    rw [List.map_map]
    rfl
  rw [e]
  exact ints_hds _
def ListRK (Q : VK) (v : V) (H : Hp) : Prop := ∃ j : Int, v = V.int j ∧ RgOk 0 j ∧ ∀ q, H q = none → Q (.ref q) (upd H q (.lst (rgV 0 j)))
theorem f_listR {n : Int} {f : List Int → O ρ lam α} (hA : At K g Γ σ ((v, .dat (eI n)) :: τ) H) (hm : Out (bindR (lrgR n) f) N T B C E) (k : ∀ v H', At K g Γ σ ((v, .own none (.lst ((rangeL 0 n).map eI))) :: τ) H' → Out (f (rangeL 0 n)) N T B C E → Q v H') : ListRK Q v H := by
  obtain ⟨hc, q⟩ := hm.bindR.gd
  simp only [Bool.and_eq_true, decide_eq_true_eq] at hc
  obtain ⟨S, h⟩ := hA
  exact ⟨n, h.top.i, ⟨by omega, by omega, by omega, by omega, by omega⟩, fun p hn => k _ _ ⟨S, h.pop.fresh hn ⟨_, rfl, rg_hds n⟩⟩ q⟩
theorem x_listR (h : te σ H fun v H1 => ListRK Q v H1) : tLstRg (tRg1 te) σ H Q := h
/-! ### a list's own methods -/
theorem At.tyL {ps : List VP} (hA : At K g Γ σ ((v, t) :: τ) H) (hl : IsL Γ t ps) : tyV K "list" v H := by
  obtain ⟨S, h⟩ := hA
  exact h.tyL List.mem_cons_self hl
theorem hds_intv {S : Hp} : ∀ {xs : List Int} {vs : List V}, Hds K S (xs.map eI) vs → vs = xs.map V.int
  | [], _, .nil => rfl
  | x :: xs, _, .cons r t => by rw [show _ = V.int x from r.i, hds_intv t]; rfl
def ixR (xs : List Int) (k : Int) : R Int := match xs.findIdx? (fun x => decide (x = k)) with
  | some j => .nx (j : Int)
  | none => .stuck
theorem f_index {xs : List Int} {k : Int} {f : Int → O ρ lam α} (hl : IsL Γ t (xs.map eI)) (hA : At K g Γ σ ((y, .dat (eI k)) :: (x, t) :: τ) H) (hm : Out (bindR (ixR xs k) f) N T B C E) (kk : ∀ j v H', At K g Γ σ ((v, .dat (eI j)) :: τ) H' → Out (f j) N T B C E → Q v H') : rIndex K x [y] H Q := by
  obtain ⟨S, h⟩ := hA
  obtain ⟨a, vs, rfl, h2, h3⟩ := h.isL (List.mem_cons_of_mem _ List.mem_cons_self) hl
  have e1 : y = V.int k := h.top.i
  subst e1
  rw [hds_intv h3] at h2
  unfold ixR at hm
  cases q : xs.findIdx? (fun x => decide (x = k)) with
  | none => rw [q] at hm; exact hm.elim
  | some j =>
    rw [q] at hm
    obtain ⟨hj, p, no⟩ := List.findIdx?_eq_some_iff_getElem.mp q
    have fl : ∀ l : List Int, (l.map V.int).all flatV = true := fun l => by
      induction l with
      | nil => rfl
      | cons a r ih => rw [List.map_cons, List.all_cons, ih]; rfl
    refine ⟨a, _, _, j, V.int xs[j], rfl, rfl, h2, rfl, fl xs, by rw [List.getElem?_map, List.getElem?_eq_getElem hj]; rfl, ?_, fun m z' hm' hz => ?_, kk _ _ _ ⟨S, h.pop.pop.push (.of rfl)⟩ hm⟩
    · have : xs[j] = k := of_decide_eq_true p
      rw [this]
      exact decide_eq_true rfl
    · rw [List.getElem?_map, List.getElem?_eq_getElem (by omega)] at hz
      have ez : z' = V.int xs[m] := (Option.some.inj hz).symm
      have n1 := no m hm'
      have n2 : ¬ xs[m] = k := by simpa using n1
      rw [ez]
      exact decide_eq_false n2
def popAtR {α : Type} (xs : List α) (i : Int) : R (α × List α) := match ixN xs.length i with
  | some k => match xs[k]? with
    | some y => gd (decide (xs.length ≤ 1000000)) (y, xs.eraseIdx k)
    | none => .stuck
  | none => .stuck
theorem hds_erase {S : Hp} : ∀ {ps : List VP} {vs : List V} (k : Nat), Hds K S ps vs → Hds K S (ps.eraseIdx k) (vs.eraseIdx k)
  | _, _, _, .nil => .nil
  | _, _, 0, .cons r t => t
  | _, _, k + 1, .cons r t => .cons r (hds_erase k t)
theorem map_erase {α β : Type} (f : α → β) : ∀ (l : List α) (j : Nat), (l.map f).eraseIdx j = (l.eraseIdx j).map f
  | [], j => by simp
  | a :: r, 0 => by simp
  | a :: r, j + 1 => by
    have ih := map_erase f r j
    simp [ih]
theorem f_popAt {e : γ → VP} {xs : List γ} {oa : Option Addr} {k : Int} {f : γ × List γ → O ρ lam α} (hg : Γ[i]? = some (some (.own oa (.lst (xs.map e))))) (hA : At K g Γ σ ((y, .dat (eI k)) :: (x, .als i) :: τ) H) (hm : Out (bindR (popAtR xs k) f) N T B C E)
    (kk : ∀ r v H', At K g (Γ.set i (some (.own oa (.lst (r.2.map e))))) σ ((v, .dat (e r.1)) :: τ) H' → Out (f r) N T B C E → Q v H') : rPopAt x [y] H Q := by
  obtain ⟨S, h⟩ := hA
  unfold popAtR at hm
  cases e0 : ixN xs.length k with
  | none => rw [e0] at hm; exact hm.elim
  | some j =>
    rw [e0] at hm
    cases e1 : xs[j]? with
    | none => simp only [e1] at hm; exact hm.elim
    | some a =>
      simp only [e1] at hm
      obtain ⟨hc, hm⟩ := hm.bindR.gd
      have hlen := of_decide_eq_true hc
      obtain ⟨b, vs, rfl, h2, h3⟩ := h.isO (List.mem_cons_of_mem _ List.mem_cons_self) (.als hg)
      have ek : y = V.int k := h.top.i
      subst ek
      obtain ⟨w, w1, w2⟩ := h3.get (show (xs.map e)[j]? = some (e a) by rw [List.getElem?_map, e1]; rfl)
      have hl : vs.length = xs.length := by rw [h3.len, List.length_map]
      obtain ⟨s1, s2, s3, s4⟩ := ixN_seq e0
      have d : Hds K S ((xs.eraseIdx j).map e) (vs.eraseIdx j) := by
        rw [← map_erase]
        exact hds_erase j h3
      obtain ⟨a2, o, e2, _, _, e4⟩ := h.wr (v := .ref b) (List.mem_cons_of_mem _ List.mem_cons_self) hg (c' := .lst ((xs.eraseIdx j).map e)) (o' := .lst (vs.eraseIdx j)) ⟨_, rfl, d⟩
      cases e2
      refine ⟨b, vs, k, j, w, rfl, rfl, h2, by omega, by omega, by rw [hl]; exact s1, w1, kk (a, xs.eraseIdx j) w _ ⟨S, ?_⟩ hm⟩
      exact e4.pop.pop.push w2
/-! ### len(set(xs)) of ints -/
def dd : List Int → List Int
  | [] => []
  | x :: xs => if x ∈ xs then dd xs else x :: dd xs
theorem dd_mem : ∀ {xs : List Int} {k : Int}, k ∈ dd xs ↔ k ∈ xs
  | [], k => Iff.rfl
  | x :: xs, k => by
    unfold dd
    split
    · rename_i h
      rw [dd_mem, List.mem_cons]
      exact ⟨.inr, fun z => z.elim (fun e => e ▸ h) id⟩
    · rw [List.mem_cons, List.mem_cons, dd_mem]
theorem dd_nodup : ∀ xs : List Int, (dd xs).Nodup
  | [] => .nil
  | x :: xs => by
    unfold dd
    split
    · exact dd_nodup xs
    · rename_i h
      exact List.nodup_cons.mpr ⟨fun z => h (dd_mem.mp z), dd_nodup xs⟩
theorem dd_len {xs ys : List Int} (h : ys.Nodup) (hm : ∀ k, k ∈ ys ↔ k ∈ xs) : ys.length = (dd xs).length :=
  ((List.perm_ext_iff_of_nodup h (dd_nodup xs)).mpr fun k => (hm k).trans dd_mem.symm).length_eq
end
theorem stepd_mem (acc : List Int) (v k : Int) : k ∈ step_dedup acc v ↔ k ∈ acc ∨ k = v := by
  unfold step_dedup
  split
  · rename_i h
    refine ⟨.inl, fun z => z.elim id fun e => ?_⟩
    subst e
    obtain ⟨y, hy, e⟩ := List.any_eq_true.mp h
    have : y = k := by simpa using e
    exact this ▸ hy
  · simp
theorem stepd_nodup {acc : List Int} (h : acc.Nodup) (v : Int) : (step_dedup acc v).Nodup := by
  unfold step_dedup
  split
  · exact h
  · rename_i n
    refine List.nodup_append.mpr ⟨h, by simp, fun a ha b hb e => n ?_⟩
    have : b = v := by simpa using hb
    exact List.any_eq_true.mpr ⟨a, ha, by rw [e, this]; simp⟩
theorem foldd : ∀ (xs acc : List Int), acc.Nodup → (xs.foldl step_dedup acc).Nodup ∧ ∀ k, k ∈ xs.foldl step_dedup acc ↔ k ∈ acc ∨ k ∈ xs
  | [], acc, h => ⟨h, fun k => by simp⟩
  | x :: xs, acc, h => by
    obtain ⟨a, b⟩ := foldd xs (step_dedup acc x) (stepd_nodup h x)
    refine ⟨a, fun k => ?_⟩
    rw [List.foldl_cons, b, stepd_mem, List.mem_cons, or_assoc]
theorem firstMet_dd (ns : List Int) : (firstMet (fun i => ns.getD i 0) ns.length).length = (dd ns).length := by
  unfold firstMet
  have e : (List.range ns.length).map (fun i => ns.getD i 0) = ns := by
    apply List.ext_getElem
    · simp
    · intro i h1 h2
      simp [List.getElem?_eq_getElem h2]
  rw [e]
  obtain ⟨a, b⟩ := foldd ns [] .nil
  exact dd_len a fun k => by rw [b]; simp
def tLenSetV (K : PySem.W.Frag) (ta : TE) : TE := fun σ H Q => ta σ H fun x H1 => ∃ (l : Addr) (ns : List Int), x = V.ref l ∧ (SqL K H1 l (ns.map V.int) ∨ SqT K H1 l (ns.map V.int)) ∧ ns.length ≤ 1000 ∧ Q (.int ((dd ns).length : Int)) H1
section
variable {X : Cx}
theorem pe_lenSetV {a : Expr} {ta : TE} {p p2 q pos : Pos} (hc : X.calm = true) (hg : Gl X "len") (hm : X.mg "len" = none) (hg2 : Gl X "set") (hm2 : X.mg "set" = none) (ha : PE X a ta)
    (na : starEach [a] X.env = (false, eval a X.env) :: starEach [] X.env := by rfl) : PE X (.Call (.Name "len" p) [.Call (.Name "set" p2) [a] [] q] [] pos) (tLenSetV X.K ta) := by
  refine ⟨fun pins s σ H Q I h => ?_⟩
  refine Call_ (ld_blt I hg hm PySem.boot_len ?_)
  refine PyProof.Rows.callWith_builtin1 (PyProof.Rows.args_cons ?_ rfl) rfl rfl
  refine Call_ (ld_blt I hg2 hm2 PyProof.Rows.boot_set ?_)
  refine PyProof.Rows.callWith_type1 (PyProof.Rows.args_cons (thn (ha.run pins s σ H _ I h) fun v s1 ⟨x, H1, I1, r1, q1⟩ => PyProof.Rows.args_nil ?_) na) na rfl
  obtain ⟨l, ns, rfl, hq, h1, q1⟩ := q1
  cases r1
  rcases hq with hq | hq
  · obtain ⟨its, r, pl, hz⟩ := I1.list hq
    have hl : its.toArray.size = ns.length := by rw [List.size_toArray, ← r.length, List.length_map]
    refine call_set_list (I1.ok.hd hc) pl.isList (ns := ns) (by simpa using r.ints) (by unfold scanBound; omega) fun h' tk hS hk => ?_
    rw [hl, firstMet_dd] at hS
    refine PyProof.Rows.args_nil ?_
    obtain ⟨o, es, ep, t, ho, hex, hd, _, _, hb, hf, hn⟩ := hS
    have I2 : Inv X pins σ H1 { s1 with heap := h', toks := tk } := I1.kept fun b o e => hk b o (Heap.lt_size e) e
    exact call_len_set ho hex hd hf (by unfold scanBound at hb; omega) ⟨.int ((dd ns).length : Int), H1, I2.tok _, ⟨_, by rw [hn]⟩, q1⟩
  · obtain ⟨its, r, pt, hz⟩ := I1.tuple hq
    have hi : IntsAre its.toArray.toList ns := ints_of_vals r
    refine call_set_tupI ns (I1.ok.hd hc) (show s1.heap.IsTuple l its.toArray from pt) hi (by unfold scanBound; omega) fun h' tk c R1 hcn k => ?_
    refine PyProof.Rows.args_nil ?_
    obtain ⟨o, es, ep, t, ho, hex, hdt, g, nd, hm2, hb, hf, hn, hr, hl2⟩ := R1
    have e : es.size = (dd ns).length := by
      have z := dd_len nd (xs := ns) fun k => by rw [← hm2 k, decide_eq_true_eq]
      rw [List.length_map, Array.length_toList] at z
      exact z
    have I2 : Inv X pins σ H1 { s1 with heap := h', toks := tk } := I1.kept fun b o e => k b o e
    exact call_len_set ho hex hdt hf (by unfold scanBound at hb; omega) ⟨.int ((dd ns).length : Int), H1, I2.tok _, ⟨_, by rw [e]⟩, q1⟩
end
def setLenR (d : PyData) : R Int := bindR (itemsD d) fun xs => bindR (intsR xs) fun ns => gd (decide (ns.length ≤ 1000)) ((dd ns).length : Int)
section
variable {K : PySem.W.Frag} {ρ lam α β γ : Type} {Γ : List (Option Tm)} {g : Gh} {H : Hp} {σ : L2.St} {τ : List (V × Tm)} {v x y : V} {t u z : Tm} {i : Nat} {N : α → Prop} {T : ρ → Prop} {B C : lam → Prop} {E : Er → Prop} {Q : VK} {ta tb te : TE} {P : Prop}
def LenSetK (K : PySem.W.Frag) (Q : VK) (v : V) (H : Hp) : Prop := ∃ (l : Addr) (ns : List Int), v = V.ref l ∧ (SqL K H l (ns.map V.int) ∨ SqT K H l (ns.map V.int)) ∧ ns.length ≤ 1000 ∧ Q (.int ((dd ns).length : Int)) H
theorem f_lenSet {d : PyData} {f : Int → O ρ lam α} (hA : At K g Γ σ ((v, .dat (eD d)) :: τ) H) (hm : Out (bindR (setLenR d) f) N T B C E) (k : ∀ n v H', At K g Γ σ ((v, .dat (eI n)) :: τ) H' → Out (f n) N T B C E → Q v H') : LenSetK K Q v H := by
  have go : ∀ xs : List PyData, (At K g Γ σ ((v, .dat (eL eD xs)) :: τ) H ∨ At K g Γ σ ((v, .dat (eT eD xs)) :: τ) H) → Out (bindR (bindR (intsR xs) fun ns => gd (decide (ns.length ≤ 1000)) ((dd ns).length : Int)) f) N T B C E → ∃ (l : Addr) (ns : List Int), v = V.ref l ∧ (SqL K H l (ns.map V.int) ∨ SqT K H l (ns.map V.int)) ∧ ns.length ≤ 1000 ∧ Q (.int ((dd ns).length : Int)) H := fun xs hA hm => by
    cases q : intsR xs with
    | nx ys =>
      rw [q] at hm
      have e := intsR_ok q
      subst e
      obtain ⟨hc, q2⟩ := hm.bindR.gd
      rcases hA with ⟨S, h⟩ | ⟨S, h⟩
      · obtain ⟨a, vs, rfl, h2, h3⟩ := Hd.l h.top
        rw [hds_intv (hds_int h3)] at h2
        exact ⟨a, ys, rfl, .inl (h.base.sh.seq h2), of_decide_eq_true hc, k _ _ _ ⟨S, h.pop.push (.of rfl)⟩ q2⟩
      · obtain ⟨a, vs, rfl, h2, h3⟩ := Hd.t h.top
        rw [hds_intv (hds_int h3)] at h2
        exact ⟨a, ys, rfl, .inr (same_t h.base.sh h2), of_decide_eq_true hc, k _ _ _ ⟨S, h.pop.push (.of rfl)⟩ q2⟩
    | er x => exact (intsR_er q).elim
    | stuck => rw [q] at hm; exact hm.elim
    | rt z => exact z.elim
    | bk z => exact z.elim
    | ct z => exact z.elim
  cases d with
  | list xs => exact go xs (.inl (hA.box fun v S q => eD_list q)) hm
  | tuple xs => exact go xs (.inr (hA.box fun v S q => eD_tup q)) hm
  | _ => exact hm.elim
theorem x_lenSet (h : te σ H fun x H1 => LenSetK K Q x H1) : tLenSetV K te σ H Q := h
/-! ### lists of data -/
theorem o1_listD {d : PyData} : O1M K Γ (fun x => rList K [x]) (.dat (eD d)) (itemsD d) (fun xs => .own none (.lst (xs.map eD))) := fun g σ τ H x Q E hA hm => by
  cases d with
  | list xs => exact o1_list (K := K) (Γ := Γ) (t := .dat (eL eD xs)) (ps := xs.map eD) (.l .dat) g σ τ H x Q (hA.box fun v S q => eD_list q) hm
  | tuple xs => exact o1_list (K := K) (Γ := Γ) (t := .dat (eT eD xs)) (ps := xs.map eD) .t g σ τ H x Q (hA.box fun v S q => eD_tup q) hm
  | _ => exact hm.elim
theorem upd_self {H : Hp} {a : Addr} {o : HO} (h : H a = some o) : upd H a o = H := funext fun b => by
  by_cases e : b = a
  · subst e; rw [upd_same, h]
  · rw [upd_ne e]
theorem At.recell {oa : Option Addr} {c c' : Cell} (hc : ∀ S o, CellOk K S c o → CellOk K S c' o) (hA : At K g Γ σ ((v, .own oa c) :: τ) H) : At K g Γ σ ((v, .own oa c') :: τ) H := by
  obtain ⟨S, h⟩ := hA
  obtain ⟨a, o, rfl, _, _, _, h4, h5⟩ := h.top
  obtain ⟨o2, e2, _, h6⟩ := h.writeT (c' := c') (o' := o) (hc S o h5)
  rw [upd_self h4] at h6
  exact ⟨S, h6⟩
theorem f_intsO {oa : Option Addr} {xs : List PyData} {f : List Int → O ρ lam α} (hA : At K g Γ σ ((v, .own oa (.lst (xs.map eD))) :: τ) H) (hm : Out (bindR (intsR xs) f) N T B C E) (k : ∀ ys, At K g Γ σ ((v, .own oa (.lst (ys.map eI))) :: τ) H → Out (f ys) N T B C E → P) : P := by
  cases q : intsR xs with
  | nx ys =>
    rw [q] at hm
    have e := intsR_ok q
    subst e
    refine k ys (hA.recell (c' := .lst (ys.map eI)) fun S o h => ?_) hm
    obtain ⟨vs, e, d⟩ := h
    exact ⟨vs, e, hds_int d⟩
  | er x => exact (intsR_er q).elim
  | stuck => rw [q] at hm; exact hm.elim
  | rt z => exact z.elim
  | bk z => exact z.elim
  | ct z => exact z.elim
/-- + of lists of two kinds, as data -/
theorem o2_catB {K : PySem.W.Frag} {Γ : List (Option Tm)} {e1 : α → VP} {d1 : α → PyData} {e2 : β → VP} {d2 : β → PyData} (b1 : Bx e1 d1) (b2 : Bx e2 d2) {t u : Tm} {xs : List α} {ys : List β} (h1 : IsL Γ t (xs.map e1)) (h2 : IsL Γ u (ys.map e2)) :
    O2M K Γ (rCatS K) t u (catR (xs.map d1) (ys.map d2)) (fun c => .own none (.lst (c.map eD))) := At.part2 fun hz => fun g σ τ H x y Q ⟨S, h⟩ k => by
  obtain ⟨a, vs, rfl, a2, a3⟩ := h.isL (List.mem_cons_of_mem _ List.mem_cons_self) h1
  obtain ⟨b, ws, rfl, c2, c3⟩ := h.isL List.mem_cons_self h2
  have hz' : (xs.map d1).length + (ys.map d2).length ≤ 1000000 := of_decide_eq_true hz
  rw [List.length_map, List.length_map] at hz'
  refine ⟨a, b, vs, ws, rfl, rfl, a2, c2, ?_, fun p hn => k _ _ ⟨S, h.pop.pop.fresh hn ⟨_, rfl, ?_⟩⟩⟩
  · rw [a3.len, c3.len, List.length_map, List.length_map]; exact le_line hz'
  · rw [List.map_append]; exact (hds_box b1 a3).append (hds_box b2 c3)
/-! ### a pair goes into two places -/
theorem f_gtup2 {e1 : β → VP} {e2 : γ → VP} {g1 g2 : TG} {p : β × γ} {Q : L2.St → Hp → Prop} (hA : At K g Γ σ ((v, .dat (eP2 e1 e2 p)) :: τ) H)
    (k : ∀ x y, At K g Γ σ ((x, .dat (e1 p.1)) :: (y, .dat (e2 p.2)) :: τ) H → g1 x σ H fun σ' H' => gCons g2 gNil [y] σ' H' Q) : gTup K 2 (gCons g1 (gCons g2 gNil)) v σ H Q := by
  obtain ⟨S, h⟩ := hA
  obtain ⟨a, vs, rfl, h2, h3⟩ := Hd.t h.top
  cases h3 with
  | cons r t =>
    cases t with
    | cons r2 t2 =>
      cases t2
      exact ⟨a, _, rfl, same_t h.base.sh h2, rfl, _, _, rfl, k _ _ ⟨S, (h.pop.push r2).push r⟩⟩
theorem x_g2 {g2 : TG} {Q : L2.St → Hp → Prop} (h : g2 y σ H fun σ' H' => gNil [] σ' H' Q) : gCons g2 gNil [y] σ H Q := ⟨y, [], rfl, h⟩
theorem x_gnil {Q : L2.St → Hp → Prop} (h : Q σ H) : gNil [] σ H Q := ⟨rfl, h⟩
/-! ### is of bools -/
def rIsB : R2 := fun x y H Q => ∃ a b, x = .bl a ∧ y = .bl b ∧ Q (.bl (decide (a = b))) H
def rNotB : R2 := fun x y H Q => ∃ a b, x = .bl a ∧ y = .bl b ∧ Q (.bl (!decide (a = b))) H
theorem p_isB {X : Cx} : OpR X (compareOp .Is) rIsB := op_is_bl
theorem p_notB {X : Cx} : OpR X (compareOp .IsNot) rNotB := op_isnot_bl
theorem o2_isB {a b : Bool} : O2 K Γ rIsB (.dat (eB a)) (.dat (eB b)) (.dat (eB (decide (a = b)))) := At.scal2 (fun S v w h1 h2 H Q k => ⟨a, b, h1.b, h2.b, k⟩) fun _ => rfl
theorem o2_notB {a b : Bool} : O2 K Γ rNotB (.dat (eB a)) (.dat (eB b)) (.dat (eB (!decide (a = b)))) := At.scal2 (fun S v w h1 h2 H Q k => ⟨a, b, h1.b, h2.b, k⟩) fun _ => rfl
end
end Gv

set_option Elab.async false
set_option linter.all false
set_option maxRecDepth 100000
set_option maxHeartbeats 4000000
/-! Gv: dicts of ints made by a comprehension and read -/
namespace Gv
open PySem PySem.Spec L2
def dK (kvs : List (Int × Int)) : List (Key × V) := kvs.map fun p => ((Sum.inl p.1 : Key), V.int p.2)
def eM (kvs : List (Int × Int)) : VP := fun _ v S => ∃ d, v = .ref d ∧ S d = some (.dK (dK kvs))
def putI (kvs : List (Int × Int)) (k v : Int) : List (Int × Int) := if (kvs.any fun kv => decide (kv.1 = k)) = true then kvs.map (fun kv => if kv.1 = k then (kv.1, v) else kv) else kvs ++ [(k, v)]
def getI (kvs : List (Int × Int)) (k : Int) : R Int := match (kvs.find? fun kv => decide (kv.1 = k)).map (·.2) with
  | some v => .nx v
  | none => .stuck
theorem inl_dec (a b : Int) : decide ((Sum.inl a : Key) = Sum.inl b) = decide (a = b) := by
  by_cases h : a = b
  · subst h; simp
  · rw [decide_eq_false h, decide_eq_false fun e => h (Sum.inl.inj e)]
theorem any_dK (kvs : List (Int × Int)) (k : Int) : ((dK kvs).any fun kv => decide (kv.1 = (Sum.inl k : Key))) = kvs.any fun kv => decide (kv.1 = k) := by
  unfold dK
  rw [List.any_map]
  congr 1
  funext p
  exact inl_dec p.1 k
theorem put_dK (kvs : List (Int × Int)) (k v : Int) : putK (dK kvs) (Sum.inl k : Key) (V.int v) = dK (putI kvs k v) := by
  unfold putK putI
  rw [any_dK]
  split
  · unfold dK
    rw [List.map_map, List.map_map]
    refine List.map_congr_left fun p _ => ?_
    by_cases h : p.1 = k
    · simp [h]
    · have h2 : ¬ ((Sum.inl p.1 : Key) = Sum.inl k) := fun e => h (Sum.inl.inj e)
      simp [h]
  · unfold dK
    rw [List.map_append]
    rfl
theorem val_dK (kvs : List (Int × Int)) (k : Int) : valV (dK kvs) (Sum.inl k : Key) = ((kvs.find? fun kv => decide (kv.1 = k)).map (·.2)).map V.int := by
  unfold valV
  induction kvs with
  | nil => rfl
  | cons p r ih =>
    have e : dK (p :: r) = ((Sum.inl p.1 : Key), V.int p.2) :: dK r := rfl
    rw [e, List.find?_cons, List.find?_cons]
    rw [inl_dec]
    cases decide (p.1 = k) with
    | true => rfl
    | false => exact ih
section
variable {K : PySem.W.Frag} {ρ lam α β γ : Type} {X : Fx ρ} {Γ : List (Option Tm)} {g : Gh} {H : Hp} {σ : L2.St} {τ : List (V × Tm)} {v x y : V} {t u z : Tm} {i : Nat} {N : α → Prop} {T : ρ → Prop} {B C : lam → Prop} {E : Er → Prop} {Q : VK} {ta tb te td ty : TE} {P : Prop}
def DGetK (Q : VK) (x y : V) (H : Hp) : Prop := ∃ a v, x = .ref a ∧ DGet H a y (some v) ∧ Q v H
theorem x_dget (h : td σ H fun x H1 => ty σ H1 fun y H2 => DGetK Q x y H2) : tDGet td ty σ H Q := h
theorem f_dget {kvs : List (Int × Int)} {k : Int} {f : Int → O ρ lam α} (hA : At K g Γ σ ((y, .dat (eI k)) :: (x, .dat (eM kvs)) :: τ) H) (hm : Out (bindR (getI kvs k) f) N T B C E) (kk : ∀ n v H', At K g Γ σ ((v, .dat (eI n)) :: τ) H' → Out (f n) N T B C E → Q v H') : DGetK Q x y H := by
  obtain ⟨S, h⟩ := hA
  have e1 : y = V.int k := h.top.i
  subst e1
  obtain ⟨S0, s0, d, rfl, hd⟩ := h.pop.top
  unfold getI at hm
  have hv := val_dK kvs k
  cases q : (kvs.find? fun kv => decide (kv.1 = k)).map (·.2) with
  | none => rw [q] at hm; exact hm.elim
  | some n =>
    rw [q] at hm hv
    have hH : H d = some (.dK (dK kvs)) := h.base.sh _ _ (s0 _ _ hd)
    have g1 := DGet.k (k := (Sum.inl k : Key)) hH
    rw [hv] at g1
    exact ⟨d, V.int n, rfl, g1, kk n _ _ ⟨S, h.pop.pop.push (.of rfl)⟩ hm⟩
/-! ### {k: v for ..} -/
def dcR (f : β → R (Int × Int)) : List β → List (Int × Int) → R (List (Int × Int))
  | [], acc => .nx acc
  | x :: xs, acc => match f x with
    | .nx kv => if acc.length < 1000000 then dcR f xs (putI acc kv.1 kv.2) else .stuck
    | _ => .stuck
theorem dcR_out {f : β → R (Int × Int)} {x : β} {xs : List β} {acc : List (Int × Int)} {N : List (Int × Int) → Prop} {E : Er → Prop} (h : OutR (dcR f (x :: xs) acc) N E) :
    OutR (f x) (fun kv => acc.length < 1000000 ∧ OutR (dcR f xs (putI acc kv.1 kv.2)) N E) (fun _ => False) := by
  unfold dcR at h
  cases e : f x with
  | nx r =>
    rw [e] at h
    dsimp only at h
    by_cases hl : acc.length < 1000000
    · rw [if_pos hl] at h; exact ⟨hl, h⟩
    · rw [if_neg hl] at h; exact h.elim
  | rt z => exact z.elim
  | bk z => exact z.elim
  | ct z => exact z.elim
  | er z => rw [e] at h; exact h.elim
  | stuck => rw [e] at h; exact h.elim
def DR (tg : TG) (tt : TT) (tk tv : TE) (vs : List Nat) (σ : L2.St) (Q : VK) : It → Hp → Prop := fun J H1 => ∀ D, H1 D = none → ∃ W : Nat → Nat → Hp → Prop, (∃ m, W 0 m (upd H1 D (.dK []))) ∧ ∀ i m H, W i m H →
  (J.stop i H ∧ Q (.ref D) H) ∨ (J.go i H ∧ ∃ Nx : Hp → Prop, (∀ H', Nx H' → ∃ m', m' < m ∧ W (i + 1) m' H') ∧ ∀ x H', J.yld i H x H' → tg x (wipe σ vs) H' fun σ2 H2 => wipe σ2 vs = wipe σ vs ∧ tt σ2 H2 fun b H3 =>
    if b = true then tk σ2 H3 fun y H4 => tv σ2 H4 fun z H5 => ∃ kvs k, y = kV k ∧ H5 D = some (.dK kvs) ∧ kvs.length < sizeLine ∧ Nx (upd H5 D (.dK (putK kvs k z))) else Nx H3)
def DJ (K : PySem.W.Frag) (Gl : List (Option Tm)) (js : List Nat) (ps : β → List VP) (tk tv : TE) (f : β → R (Int × Int)) : Prop :=
  ∀ b g σ τ H (Q : V → V → Hp → Prop), At K g (setG Gl js (ps b)) σ τ H →
    OutR (f b) (fun r => ∀ x y H', At K g (setG Gl js (ps b)) σ ((y, .dat (eI r.2)) :: (x, .dat (eI r.1)) :: τ) H' → Q x y H') (fun _ => False) → tk σ H fun x H3 => tv σ H3 fun y H4 => Q x y H4
theorem dj_fwd {Gl : List (Option Tm)} {js : List Nat} {ps : β → List VP} {tk tv : TE} {f : β → R (Int × Int)}
    (h : ∀ b g σ τ H (Q : V → V → Hp → Prop), At K g (setG Gl js (ps b)) σ τ H → Out (f b) (fun r => ∀ x y H', At K g (setG Gl js (ps b)) σ ((y, .dat (eI r.2)) :: (x, .dat (eI r.1)) :: τ) H' → Q x y H') (fun _ => True) (fun _ => True) (fun _ => True) (fun _ => False) → tk σ H fun x H3 => tv σ H3 fun y H4 => Q x y H4) : DJ K Gl js ps tk tv f :=
  fun b g σ τ H Q hA hm => h b g σ τ H Q hA hm.out
theorem cell_dk {S : Hp} {acc : List (Int × Int)} {o : HO} : CellOk K S (.dk (acc.map fun p => ((Sum.inl p.1 : Key), eI p.2))) o ↔ o = .dK (dK acc) := by
  have go : ∀ (acc : List (Int × Int)) (vs : List (Key × V)), Paired (fun (p : Key × VP) (v : Key × V) => p.1 = v.1 ∧ Hd K p.2 v.2 S) (acc.map fun p => ((Sum.inl p.1 : Key), eI p.2)) vs → vs = dK acc := fun acc => by
    induction acc with
    | nil => intro vs h; cases h; rfl
    | cons p r ih =>
      intro vs h
      cases h with
      | cons a b =>
        rename_i w ws
        have e2 := ih _ b
        subst e2
        obtain ⟨w1, w2⟩ := w
        have a1 : (Sum.inl p.1 : Key) = w1 := a.1
        have a2 : w2 = V.int p.2 := Hd.i a.2
        subst a1 a2
        rfl
  have back : ∀ acc : List (Int × Int), Paired (fun (p : Key × VP) (v : Key × V) => p.1 = v.1 ∧ Hd K p.2 v.2 S) (acc.map fun p => ((Sum.inl p.1 : Key), eI p.2)) (dK acc) := fun acc => by
    induction acc with
    | nil => exact .nil
    | cons p r ih => exact .cons ⟨rfl, .of rfl⟩ ih
  constructor
  · rintro ⟨vs, rfl, h⟩
    rw [go acc vs h]
  · rintro rfl
    exact ⟨_, rfl, back acc⟩
variable {e : β → VP} {xs : List β} {tg : TG} {vs : List Nat} {tk tv : TE}
theorem f_dcW {js : List Nat} {ps : β → List VP} {f : β → R (Int × Int)} {F : List (Int × Int) → O ρ lam α} (Gl : List (Option Tm)) (ht : ∀ b, TJ K tg (e b) js (ps b)) (nd : js.Nodup)
    (hn : ∀ j ∈ js, Gl[j]? = some none) (hv : ∀ j ∈ vs, Gl[j]? = some none) (hsub : ∀ j ∈ js, j ∈ vs) (hl : DJ K Gl js ps tk tv f)
    (hm : Out (bindR (dcR f xs []) F) N T B C E) (k : ∀ r v H', At K g Gl σ ((v, .dat (eM r)) :: τ) H' → Out (F r) N T B C E → Q v H') : WK K g Gl σ τ xs e (DR tg tYes tk tv vs σ Q) := fun J Gd Y S1 H' w es ef hA' hG hY => by
  have hm2 : OutR (dcR f xs []) (fun r => ∀ v H', At K g Gl σ ((v, .dat (eM r)) :: τ) H' → Q v H') E := hm.bindR.imp (fun r q v H' h' => k r v H' h' q) fun _ q => q
  intro D hD
  let Pv : Nat → Hp → Prop := fun i H => ∃ acc, At K ⟨S1, g.F⟩ Gl σ ((.ref D, .own (some D) (.dk (acc.map fun p => ((Sum.inl p.1 : Key), eI p.2)))) :: τ) H ∧ OutR (dcR f (xs.drop i) acc) (fun r => ∀ v H', At K g Gl σ ((v, .dat (eM r)) :: τ) H' → Q v H') E
  refine ⟨fun i m H => m = xs.length - i ∧ i ≤ xs.length ∧ Pv i H, ⟨xs.length, rfl, Nat.zero_le _, [], ?_, by rw [List.drop_zero]; exact hm2⟩, ?_⟩
  · obtain ⟨S, h⟩ := hA'
    exact ⟨S, h.freshA (fun b z => (Option.some.inj z).symm) hD (cell_dk.mpr rfl)⟩
  · rintro i m H ⟨rfl, hi, acc, hA2, q3⟩
    have hg : Gd H := by
      obtain ⟨S2, h2⟩ := hA2
      exact hG S2 H h2.base
    by_cases hlt : i < xs.length
    · refine .inr ⟨w.goes i H hlt hg, Pv (i + 1), fun H' p' => ⟨xs.length - (i + 1), by omega, rfl, hlt, p'⟩, fun x H' y => ?_⟩
      have hx : xs[i]? = some xs[i] := List.getElem?_eq_getElem hlt
      have hy := w.yields i H x H' hlt hg y
      rw [List.drop_eq_getElem_cons hlt] at q3
      have q4 := dcR_out q3
      have hA3 : At K ⟨S1, g.F⟩ Gl (wipe σ vs) ((.ref D, .own (some D) (.dk (acc.map fun p => ((Sum.inl p.1 : Key), eI p.2)))) :: τ) H := by
        obtain ⟨S, h⟩ := hA2
        exact ⟨S, h.slots (fun j t ej => wipe_get fun z => by rw [hv j z] at ej; cases ej) (by rw [wipe_length]; exact h.len)⟩
      have hal : ∀ y ∈ (V.ref D, Tm.own (some D) (.dk (acc.map fun p => ((Sum.inl p.1 : Key), eI p.2)))) :: τ, ∀ k, y.2 = Tm.als k → k ∉ js := fun y hy k ek hk => by
        obtain ⟨S, h⟩ := hA2
        obtain ⟨oa, c, q⟩ := h.al y hy k ek
        rw [hn k hk] at q; cases q
      refine (ht xs[i]).2 ⟨S1, g.F⟩ Gl (wipe σ vs) _ H' x _ (fun j hj => (List.getElem?_eq_some_iff.mp (hn j hj)).1) hal (hY i _ x H H' _ _ _ hx hy hA3) fun ws H2 _ hA4 => ⟨wipe_set hsub, ?_⟩
      have back : ∀ {τ' : List (V × Tm)} {H3 : Hp}, At K ⟨S1, g.F⟩ (setG Gl js (ps xs[i])) (setS (wipe σ vs) js ws) τ' H3 → At K ⟨S1, g.F⟩ Gl σ τ' H3 := fun {τ' H3} ⟨S, h⟩ => by
        have h5 := forget nd hn h
        have hlen : Gl.length ≤ σ.length := by
          have := h5.len
          rw [setS_len, wipe_length] at this
          exact this
        exact ⟨S, h5.slots (fun j t ej => by
          have n1 : j ∉ js := fun z => by rw [hn j z] at ej; cases ej
          have n2 : j ∉ vs := fun z => by rw [hv j z] at ej; cases ej
          rw [setS_get n1, wipe_get n2]) hlen⟩
      refine x_yes ?_
      refine hl xs[i] ⟨S1, g.F⟩ (setS (wipe σ vs) js ws) _ H2 (fun y z H5 => ∃ kvs k, y = kV k ∧ H5 D = some (.dK kvs) ∧ kvs.length < sizeLine ∧ Pv (i + 1) (upd H5 D (.dK (putK kvs k z)))) hA4 (q4.imp (fun r q5 => ?_) fun _ q5 => q5)
      intro y z H4 h4
      obtain ⟨q6, q7⟩ := q5
      obtain ⟨S, h5⟩ := back h4
      have ez : z = V.int r.2 := h5.top.i
      have ey : y = V.int r.1 := h5.pop.top.i
      subst ez ey
      obtain ⟨a, o, e1, e2, _, _, e3, c3⟩ := h5.pop.pop.top
      cases e1
      have eo := cell_dk.mp c3
      subst eo
      obtain ⟨o2, _, _, h6⟩ := h5.pop.pop.writeT (c' := .dk ((putI acc r.1 r.2).map fun p => ((Sum.inl p.1 : Key), eI p.2))) (o' := .dK (dK (putI acc r.1 r.2))) (cell_dk.mpr rfl)
      refine ⟨dK acc, Sum.inl r.1, rfl, e3, by unfold dK; rw [List.length_map]; exact lt_line q6, ?_⟩
      rw [put_dK]
      exact ⟨putI acc r.1 r.2, ⟨S, h6⟩, q7⟩
    · have ei : i = xs.length := by omega
      subst ei
      refine .inl ⟨w.stops H hg, ?_⟩
      rw [List.drop_length] at q3
      obtain ⟨S, h⟩ := hA2
      obtain ⟨a, o, ea, e2, nS, c3, h6⟩ := h.freeze
      cases ea
      have eo := cell_dk.mp c3
      subst eo
      exact q3 (.ref D) H (At.unS ⟨_, h6.push (.of ⟨D, rfl, upd_same⟩)⟩ es ef)
variable {tl : TE}
theorem x_dcE (h : tl σ H fun v H1 => (∃ a, v = .ref a ∧ (∃ xs, SqL K H1 a xs) ∧ DR tg tYes tk tv vs σ Q (Ite K a) H1) ∨ (∃ a, v = .ref a ∧ (∃ xs, SqT K H1 a xs) ∧ DR tg tYes tk tv vs σ Q (IteT K a) H1)) : tDc (iEnumQ K tl) tg tYes tk tv vs σ H Q := h
end
end Gv

set_option Elab.async false
set_option linter.all false
set_option maxRecDepth 100000
set_option maxHeartbeats 4000000
/-! Gv: comprehensions of two fors -/
namespace Gv
open PySem PySem.Spec L2
section
variable {β β2 γ : Type}
def in2R (f : β2 → R (Option γ)) : List β2 → List γ → R (List γ)
  | [], acc => .nx acc
  | y :: ys, acc => match f y with
    | .nx none => in2R f ys acc
    | .nx (some z) => if acc.length < 1000000 then in2R f ys (acc ++ [z]) else .stuck
    | _ => .stuck
def lc2R (w : β → R (List β2)) (f : β → β2 → R (Option γ)) : List β → List γ → R (List γ)
  | [], acc => .nx acc
  | x :: xs, acc => match w x with
    | .nx ys => (match in2R (f x) ys acc with
      | .nx acc' => lc2R w f xs acc'
      | _ => .stuck)
    | _ => .stuck
theorem in2R_out {f : β2 → R (Option γ)} {y : β2} {ys : List β2} {acc : List γ} {N : List γ → Prop} (h : OutR (in2R f (y :: ys) acc) N (fun _ => False)) :
    OutR (f y) (fun r => match r with
      | none => OutR (in2R f ys acc) N (fun _ => False)
      | some z => acc.length < 1000000 ∧ OutR (in2R f ys (acc ++ [z])) N (fun _ => False)) (fun _ => False) := by
  unfold in2R at h
  cases e : f y with
  | nx o =>
    rw [e] at h
    cases o with
    | none => exact h
    | some z =>
      dsimp only at h
      by_cases hl : acc.length < 1000000
      · rw [if_pos hl] at h; exact ⟨hl, h⟩
      · rw [if_neg hl] at h; exact h.elim
  | rt z => exact z.elim
  | bk z => exact z.elim
  | ct z => exact z.elim
  | er z => rw [e] at h; exact h.elim
  | stuck => rw [e] at h; exact h.elim
theorem lc2R_out {w : β → R (List β2)} {f : β → β2 → R (Option γ)} {x : β} {xs : List β} {acc : List γ} {N : List γ → Prop} {E : Er → Prop} (h : OutR (lc2R w f (x :: xs) acc) N E) :
    OutR (w x) (fun ys => OutR (in2R (f x) ys acc) (fun acc' => OutR (lc2R w f xs acc') N E) (fun _ => False)) (fun _ => False) := by
  unfold lc2R at h
  cases e : w x with
  | nx ys =>
    rw [e] at h
    dsimp only at h
    show OutR (in2R (f x) ys acc) _ _
    cases e2 : in2R (f x) ys acc with
    | nx a => rw [e2] at h; exact h
    | rt z => exact z.elim
    | bk z => exact z.elim
    | ct z => exact z.elim
    | er z => rw [e2] at h; exact h.elim
    | stuck => rw [e2] at h; exact h.elim
  | rt z => exact z.elim
  | bk z => exact z.elim
  | ct z => exact z.elim
  | er z => rw [e] at h; exact h.elim
  | stuck => rw [e] at h; exact h.elim
end
/-- the inner walk -/
def IR (tg : TG) (tt : TT) (te : TE) (vs : List Nat) (σ : L2.St) (D : Addr) (Nx : Hp → Prop) : It → Hp → Prop := fun J H4 => ∃ W1 : Nat → Nat → Hp → Prop, (∃ m, W1 0 m H4) ∧ ∀ j k H, W1 j k H →
  (J.stop j H ∧ Nx H) ∨ (J.go j H ∧ ∃ Nx1 : Hp → Prop, (∀ H', Nx1 H' → ∃ k', k' < k ∧ W1 (j + 1) k' H') ∧ ∀ x H', J.yld j H x H' → tg x (wipe σ vs) H' fun σ3 H5 => wipe σ3 vs = wipe σ vs ∧ tt σ3 H5 fun b H6 =>
    if b = true then te σ3 H6 fun y H7 => ∃ acc, H7 D = some (.lst acc) ∧ acc.length < sizeLine ∧ Nx1 (upd H7 D (.lst (acc ++ [y]))) else Nx1 H6)
/-- the outer walk -/
def LR2 (tg : TG) (tt : TT) (wi1 : TI) (tg1 : TG) (tt1 : TT) (te : TE) (vs vs1 : List Nat) (σ : L2.St) (Q : VK) : It → Hp → Prop := fun J H1 => ∀ D, H1 D = none → ∃ W : Nat → Nat → Hp → Prop, (∃ m, W 0 m (upd H1 D (.lst []))) ∧ ∀ i m H, W i m H →
  (J.stop i H ∧ Q (.ref D) H) ∨ (J.go i H ∧ ∃ Nx : Hp → Prop, (∀ H', Nx H' → ∃ m', m' < m ∧ W (i + 1) m' H') ∧ ∀ x H', J.yld i H x H' → tg x (wipe σ vs) H' fun σ2 H2 => wipe σ2 vs = wipe σ vs ∧ tt σ2 H2 fun b H3 =>
    if b = true then wi1 σ2 H3 (IR tg1 tt1 te vs1 σ2 D Nx) else Nx H3)
section
variable {K : PySem.W.Frag} {ρ lam α β β2 γ : Type} {X : Fx ρ} {Γ : List (Option Tm)} {g : Gh} {H : Hp} {σ : L2.St} {τ : List (V × Tm)} {v x y : V} {N : α → Prop} {T : ρ → Prop} {B C : lam → Prop} {E : Er → Prop} {Q : VK} {ta tl te : TE}
  {e : β → VP} {xs : List β} {e1 : β2 → VP} {ys : List β2} {tg tg1 : TG} {tt1 : TT} {vs vs1 : List Nat} {wi1 : TI} {enc : γ → VP}
/-- what an inner item gives -/
def IJ (K : PySem.W.Frag) (Γ : List (Option Tm)) (js : List Nat) (ps : β2 → List VP) (enc : γ → VP) (tt : TT) (te : TE) (f : β2 → R (Option γ)) : Prop :=
  ∀ b g σ τ H (Q : Option V → Hp → Prop), At K g (setG Γ js (ps b)) σ τ H →
    OutR (f b) (fun r => match r with
      | none => ∀ H', At K g (setG Γ js (ps b)) σ τ H' → Q none H'
      | some y => ∀ v H', At K g (setG Γ js (ps b)) σ ((v, .dat (enc y)) :: τ) H' → Q (some v) H') (fun _ => False) →
    tt σ H fun b H3 => if b = true then te σ H3 fun y H4 => Q (some y) H4 else Q none H3
theorem ij_fwd {js : List Nat} {ps : β2 → List VP} {tt : TT} {f : β2 → R (Option γ)}
    (h : ∀ b g σ τ H (Q : VK) (Qn : Hp → Prop), At K g (setG Γ js (ps b)) σ τ H → Out (f b) (fun r => match r with
      | none => ∀ H', At K g (setG Γ js (ps b)) σ τ H' → Qn H'
      | some y => ∀ v H', At K g (setG Γ js (ps b)) σ ((v, .dat (enc y)) :: τ) H' → Q v H') (fun _ => True) (fun _ => True) (fun _ => True) (fun _ => False) → tt σ H fun b H3 => if b = true then te σ H3 Q else Qn H3) : IJ K Γ js ps enc tt te f :=
  fun b g σ τ H Q hA hm => h b g σ τ H (fun y H4 => Q (some y) H4) (Q none) hA (hm.out.imp (fun r q => by
    cases r with
    | none => exact q
    | some y => exact q) (fun _ q => q) (fun _ q => q) (fun _ q => q) fun _ q => q)
theorem f_in2 {js : List Nat} {ps : β2 → List VP} {f : β2 → R (Option γ)} {D : Addr} {acc : List γ} {Nx : Hp → Prop} (ht : ∀ b, TJ K tg1 (e1 b) js (ps b)) (nd : js.Nodup)
    (hn : ∀ j ∈ js, Γ[j]? = some none) (hv : ∀ j ∈ vs1, Γ[j]? = some none) (hsub : ∀ j ∈ js, j ∈ vs1) (hl : IJ K Γ js ps enc tt1 te f)
    (hm : OutR (in2R f ys acc) (fun r => ∀ H', At K g Γ σ ((.ref D, .own (some D) (.lst (r.map enc))) :: τ) H' → Nx H') (fun _ => False)) :
    WK K g Γ σ ((.ref D, .own (some D) (.lst (acc.map enc))) :: τ) ys e1 (IR tg1 tt1 te vs1 σ D Nx) := fun J Gd Y S1 H' w es ef hA' hG hY => by
  let Pv : Nat → Hp → Prop := fun i H => ∃ acc, At K ⟨S1, g.F⟩ Γ σ ((.ref D, .own (some D) (.lst (acc.map enc))) :: τ) H ∧ OutR (in2R f (ys.drop i) acc) (fun r => ∀ H', At K g Γ σ ((.ref D, .own (some D) (.lst (r.map enc))) :: τ) H' → Nx H') (fun _ => False)
  refine ⟨fun i m H => m = ys.length - i ∧ i ≤ ys.length ∧ Pv i H, ⟨ys.length, rfl, Nat.zero_le _, acc, hA', by rw [List.drop_zero]; exact hm⟩, ?_⟩
  rintro i m H ⟨rfl, hi, acc, hA2, q3⟩
  have hg : Gd H := by
    obtain ⟨S2, h2⟩ := hA2
    exact hG S2 H h2.base
  by_cases hlt : i < ys.length
  · refine .inr ⟨w.goes i H hlt hg, Pv (i + 1), fun H' p' => ⟨ys.length - (i + 1), by omega, rfl, hlt, p'⟩, fun x H' y => ?_⟩
    have hx : ys[i]? = some ys[i] := List.getElem?_eq_getElem hlt
    have hy := w.yields i H x H' hlt hg y
    rw [List.drop_eq_getElem_cons hlt] at q3
    have q4 := in2R_out q3
    have hA3 : At K ⟨S1, g.F⟩ Γ (wipe σ vs1) ((.ref D, .own (some D) (.lst (acc.map enc))) :: τ) H := by
      obtain ⟨S, h⟩ := hA2
      exact ⟨S, h.slots (fun j t ej => wipe_get fun z => by rw [hv j z] at ej; cases ej) (by rw [wipe_length]; exact h.len)⟩
    have hal : ∀ y ∈ (V.ref D, Tm.own (some D) (.lst (acc.map enc))) :: τ, ∀ k, y.2 = Tm.als k → k ∉ js := fun y hy k ek hk => by
      obtain ⟨S, h⟩ := hA2
      obtain ⟨oa, c, q⟩ := h.al y hy k ek
      rw [hn k hk] at q; cases q
    refine (ht ys[i]).2 ⟨S1, g.F⟩ Γ (wipe σ vs1) _ H' x _ (fun j hj => (List.getElem?_eq_some_iff.mp (hn j hj)).1) hal (hY i _ x H H' _ _ _ hx hy hA3) fun ws H2 _ hA4 => ⟨wipe_set hsub, ?_⟩
    have back : ∀ {τ' : List (V × Tm)} {H3 : Hp}, At K ⟨S1, g.F⟩ (setG Γ js (ps ys[i])) (setS (wipe σ vs1) js ws) τ' H3 → At K ⟨S1, g.F⟩ Γ σ τ' H3 := fun {τ' H3} ⟨S, h⟩ => by
      have h5 := forget nd hn h
      have hlen : Γ.length ≤ σ.length := by
        have := h5.len
        rw [setS_len, wipe_length] at this
        exact this
      exact ⟨S, h5.slots (fun j t ej => by
        have n1 : j ∉ js := fun z => by rw [hn j z] at ej; cases ej
        have n2 : j ∉ vs1 := fun z => by rw [hv j z] at ej; cases ej
        rw [setS_get n1, wipe_get n2]) hlen⟩
    refine hl ys[i] ⟨S1, g.F⟩ (setS (wipe σ vs1) js ws) _ H2 (fun o H4 => match o with
      | none => Pv (i + 1) H4
      | some y => ∃ acc, H4 D = some (.lst acc) ∧ acc.length < sizeLine ∧ Pv (i + 1) (upd H4 D (.lst (acc ++ [y])))) hA4 (q4.imp (fun o q5 => ?_) fun _ q5 => q5)
    cases o with
    | none => exact fun H4 h4 => ⟨acc, back h4, q5⟩
    | some y =>
      intro v H4 h4
      obtain ⟨q6, q7⟩ := q5
      obtain ⟨S, h5⟩ := back h4
      have hv5 : Hd K (enc y) v S := h5.top
      obtain ⟨a, o, e1, e2, _, _, e3, vs3, rfl, d3⟩ := h5.pop.top
      cases e1
      obtain ⟨o2, _, _, h6⟩ := h5.pop.writeT (c' := .lst ((acc ++ [y]).map enc)) (o' := .lst (vs3 ++ [v])) ⟨_, rfl, by rw [List.map_append]; exact d3.append (.cons hv5 .nil)⟩
      exact ⟨vs3, e3, by rw [d3.len, List.length_map]; exact lt_line q6, acc ++ [y], ⟨S, h6⟩, q7⟩
  · have ei : i = ys.length := by omega
    subst ei
    rw [List.drop_length] at q3
    exact .inl ⟨w.stops H hg, q3 H (hA2.unS es ef)⟩
/-- two fors -/
theorem f_lc2W {js : List Nat} {ps : β → List VP} {ww : β → R (List β2)} {f : β → β2 → R (Option γ)} {F : List γ → O ρ lam α} (Gl : List (Option Tm)) (ht : ∀ b, TJ K tg (e b) js (ps b)) (nd : js.Nodup)
    (hn : ∀ j ∈ js, Gl[j]? = some none) (hv : ∀ j ∈ vs, Gl[j]? = some none) (hsub : ∀ j ∈ js, j ∈ vs)
    (hl : ∀ b g σ τ H D (acc : List γ) (Nx : Hp → Prop), At K g (setG Gl js (ps b)) σ ((.ref D, .own (some D) (.lst (acc.map enc))) :: τ) H →
      Out (bindR (ww b) fun ys => in2R (f b) ys acc : R (List γ)) (fun r => ∀ H', At K g (setG Gl js (ps b)) σ ((.ref D, .own (some D) (.lst (r.map enc))) :: τ) H' → Nx H') (fun _ => True) (fun _ => True) (fun _ => True) (fun _ => False) → wi1 σ H (IR tg1 tt1 te vs1 σ D Nx))
    (hm : Out (bindR (lc2R ww f xs []) F) N T B C E) (k : ∀ r v H', At K g Gl σ ((v, oL enc r) :: τ) H' → Out (F r) N T B C E → Q v H') : WK K g Gl σ τ xs e (LR2 tg tYes wi1 tg1 tt1 te vs vs1 σ Q) := fun J Gd Y S1 H' w es ef hA' hG hY => by
  have hm2 : OutR (lc2R ww f xs []) (fun r => ∀ v H', At K g Gl σ ((v, oL enc r) :: τ) H' → Q v H') E := hm.bindR.imp (fun r q v H' h' => k r v H' h' q) fun _ q => q
  intro D hD
  let Pv : Nat → Hp → Prop := fun i H => ∃ acc, At K ⟨S1, g.F⟩ Gl σ ((.ref D, .own (some D) (.lst (acc.map enc))) :: τ) H ∧ OutR (lc2R ww f (xs.drop i) acc) (fun r => ∀ v H', At K g Gl σ ((v, oL enc r) :: τ) H' → Q v H') E
  refine ⟨fun i m H => m = xs.length - i ∧ i ≤ xs.length ∧ Pv i H, ⟨xs.length, rfl, Nat.zero_le _, [], ?_, by rw [List.drop_zero]; exact hm2⟩, ?_⟩
  · obtain ⟨S, h⟩ := hA'
    exact ⟨S, h.freshA (fun b z => (Option.some.inj z).symm) hD ⟨[], rfl, .nil⟩⟩
  rintro i m H ⟨rfl, hi, acc, hA2, q3⟩
  have hg : Gd H := by
    obtain ⟨S2, h2⟩ := hA2
    exact hG S2 H h2.base
  by_cases hlt : i < xs.length
  · refine .inr ⟨w.goes i H hlt hg, Pv (i + 1), fun H' p' => ⟨xs.length - (i + 1), by omega, rfl, hlt, p'⟩, fun x H' y => ?_⟩
    have hx : xs[i]? = some xs[i] := List.getElem?_eq_getElem hlt
    have hy := w.yields i H x H' hlt hg y
    rw [List.drop_eq_getElem_cons hlt] at q3
    have q4 := lc2R_out q3
    have hA3 : At K ⟨S1, g.F⟩ Gl (wipe σ vs) ((.ref D, .own (some D) (.lst (acc.map enc))) :: τ) H := by
      obtain ⟨S, h⟩ := hA2
      exact ⟨S, h.slots (fun j t ej => wipe_get fun z => by rw [hv j z] at ej; cases ej) (by rw [wipe_length]; exact h.len)⟩
    have hal : ∀ y ∈ (V.ref D, Tm.own (some D) (.lst (acc.map enc))) :: τ, ∀ k, y.2 = Tm.als k → k ∉ js := fun y hy k ek hk => by
      obtain ⟨S, h⟩ := hA2
      obtain ⟨oa, c, q⟩ := h.al y hy k ek
      rw [hn k hk] at q; cases q
    refine (ht xs[i]).2 ⟨S1, g.F⟩ Gl (wipe σ vs) _ H' x _ (fun j hj => (List.getElem?_eq_some_iff.mp (hn j hj)).1) hal (hY i _ x H H' _ _ _ hx hy hA3) fun ws H2 _ hA4 => ⟨wipe_set hsub, ?_⟩
    have back : ∀ {τ' : List (V × Tm)} {H3 : Hp}, At K ⟨S1, g.F⟩ (setG Gl js (ps xs[i])) (setS (wipe σ vs) js ws) τ' H3 → At K ⟨S1, g.F⟩ Gl σ τ' H3 := fun {τ' H3} ⟨S, h⟩ => by
      have h5 := forget nd hn h
      have hlen : Gl.length ≤ σ.length := by
        have := h5.len
        rw [setS_len, wipe_length] at this
        exact this
      exact ⟨S, h5.slots (fun j t ej => by
        have n1 : j ∉ js := fun z => by rw [hn j z] at ej; cases ej
        have n2 : j ∉ vs := fun z => by rw [hv j z] at ej; cases ej
        rw [setS_get n1, wipe_get n2]) hlen⟩
    refine x_yes ?_
    refine hl xs[i] ⟨S1, g.F⟩ (setS (wipe σ vs) js ws) τ H2 D acc (Pv (i + 1)) hA4 ?_
    cases eq : ww xs[i] with
    | nx ys =>
      rw [eq] at q4
      have q5 : OutR (in2R (f xs[i]) ys acc) (fun acc' => OutR (lc2R ww f (xs.drop (i + 1)) acc') (fun r => ∀ v H', At K g Gl σ ((v, oL enc r) :: τ) H' → Q v H') E) (fun _ => False) := q4
      exact (q5.imp (fun r q6 H4 h4 => ⟨r, back h4, q6⟩) fun _ q6 => q6).out
    | rt z => exact z.elim
    | bk z => exact z.elim
    | ct z => exact z.elim
    | er z => rw [eq] at q4; exact q4.elim
    | stuck => rw [eq] at q4; exact q4.elim
  · have ei : i = xs.length := by omega
    subst ei
    refine .inl ⟨w.stops H hg, ?_⟩
    rw [List.drop_length] at q3
    obtain ⟨S, h⟩ := hA2
    exact q3 (.ref D) H (At.unS ⟨S, h.oaNone⟩ es ef)
variable {tt : TT}
theorem x_lc2R1 (h : tl σ H fun v H1 => ∃ j : Int, [v] = [V.int j] ∧ -(2 ^ 62) ≤ j ∧ j < 2 ^ 62 ∧ LR2 tg tt wi1 tg1 tt1 te vs vs1 σ Q (Itr 0 j.toNat) H1) : tLc2 (iRng1 (tCons tl tNil)) tg tt wi1 tg1 tt1 te vs vs1 σ H Q := h
theorem x_inR2 {D : Addr} {Nx : Hp → Prop} (h : ta σ H fun x H1 => tl σ H1 fun y H2 => ∃ i j : Int, [x, y] = [V.int i, V.int j] ∧ (-(2 ^ 62) ≤ i ∧ i < 2 ^ 62 ∧ -(2 ^ 62) ≤ j ∧ j < 2 ^ 62) ∧ IR tg1 tt1 te vs1 σ D Nx (Itr i (j - i).toNat) H2) : iRng2 (tCons ta (tCons tl tNil)) σ H (IR tg1 tt1 te vs1 σ D Nx) := h
end
end Gv

set_option Elab.async false
set_option linter.all false
set_option maxRecDepth 100000
set_option maxHeartbeats 4000000
/-! Gv: tuples of texts among data; pairs of ints as data -/
namespace Gv
open PySem PySem.Spec L2
def strsR : List PyData → R (List Str)
  | [] => .nx []
  | d :: ds => bindR (strD d) fun i => bindR (strsR ds) fun is => .nx (i :: is)
theorem strsR_ok : ∀ {xs : List PyData} {ys : List Str}, strsR xs = .nx ys → xs = ys.map PyData.str
  | [], ys, h => by cases h; rfl
  | d :: ds, ys, h => by
    cases d with
    | str i =>
      have h' : bindR (strsR ds) (fun is => O.nx (i :: is)) = (.nx ys : R (List Str)) := h
      cases q : strsR ds with
      | nx zs =>
        rw [q] at h'
        have e : ys = i :: zs := by cases h'; rfl
        rw [e, strsR_ok q]
        rfl
      | er x => rw [q] at h'; cases h'
      | stuck => rw [q] at h'; cases h'
      | rt z => exact z.elim
      | bk z => exact z.elim
      | ct z => exact z.elim
    | _ => cases h
def textsD (d : PyData) : R (List Str) := bindR (tupD d) strsR
section
variable {K : PySem.W.Frag} {ρ lam α β γ : Type} {Γ : List (Option Tm)} {g : Gh} {H : Hp} {σ : L2.St} {τ : List (V × Tm)} {v x y : V} {t : Tm} {N : α → Prop} {T : ρ → Prop} {B C : lam → Prop} {E : Er → Prop} {P : Prop}
theorem eD_strH {S : Hp} {s : Str} (h : Hd K (eD (.str s)) v S) : Hd K (eS s) v S := by
  obtain ⟨S0, e, q⟩ := h
  have q : Dp K S0 v (.str s) := q
  cases q
  exact .of rfl
theorem hds_str {S : Hp} : ∀ {ys : List Str} {vs : List V}, Hds K S ((ys.map PyData.str).map eD) vs → Hds K S (ys.map eS) vs
  | [], _, .nil => .nil
  | y :: ys, _, .cons r t => .cons (eD_strH r) (hds_str t)
theorem f_texts {d : PyData} {f : List Str → O ρ lam α} (hA : At K g Γ σ ((v, .dat (eD d)) :: τ) H) (hm : Out (bindR (textsD d) f) N T B C E) (k : ∀ ys, At K g Γ σ ((v, .dat (eT eS ys)) :: τ) H → Out (f ys) N T B C E → P) : P := by
  cases d with
  | tuple xs =>
    have hm' : Out (bindR (strsR xs) f) N T B C E := hm
    cases q : strsR xs with
    | nx ys =>
      rw [q] at hm'
      have e := strsR_ok q
      subst e
      refine k ys (hA.box fun v S h => ?_) hm'
      obtain ⟨a, vs, rfl, h2, h3⟩ := Hd.t (eD_tup h)
      exact .of ⟨a, vs, rfl, h2, hds_str h3⟩
    | er x =>
      exfalso
      have go : ∀ ds : List PyData, ∀ x, strsR ds ≠ .er x := fun ds => by
        induction ds with
        | nil => intro x h; cases h
        | cons d r ih =>
          intro x h
          cases d with
          | str i =>
            have h' : bindR (strsR r) (fun is => O.nx (i :: is)) = (.er x : R (List Str)) := h
            cases q : strsR r with
            | er z => exact ih z q
            | nx z => rw [q] at h'; cases h'
            | stuck => rw [q] at h'; cases h'
            | rt z => exact z.elim
            | bk z => exact z.elim
            | ct z => exact z.elim
          | _ => cases h
      exact go xs x q
    | stuck => rw [q] at hm'; exact hm'.elim
    | rt z => exact z.elim
    | bk z => exact z.elim
    | ct z => exact z.elim
  | _ => exact hm.elim
theorem hds_qp {S : Hp} : ∀ {xs : List (Int × Int)} {vs : List V}, Hds K S (xs.map eQ) vs → Hds K S (xs.map (eP2 eI eI)) vs
  | [], _, .nil => .nil
  | x :: xs, _, .cons r t => .cons (eQ_p r) (hds_qp t)
theorem tq_p {xs : List (Int × Int)} : ∀ v S, Hd K (eT eQ xs) v S → Hd K (eT (eP2 eI eI) xs) v S := fun v S h => by
  obtain ⟨a, vs, rfl, h2, h3⟩ := Hd.t h
  exact .of ⟨a, vs, rfl, h2, hds_qp h3⟩
theorem hnl1 {Gl : List (Option Tm)} : ∀ {js : List Nat}, (js.map fun j => Gl[j]?) = js.map (fun _ => some none) → ∀ j ∈ js, Gl[j]? = some none
  | [], _, j, h => nomatch h
  | i :: js, e, j, h => by
    rw [List.map_cons, List.map_cons] at e
    injection e with e1 e2
    rcases List.mem_cons.mp h with rfl | h
    · exact e1
    · exact hnl1 e2 j h
end
end Gv

set_option Elab.async false
set_option linter.all false
set_option maxRecDepth 100000
set_option maxHeartbeats 1000000
/-! Gm: how mirrors are read -/
namespace Gv
open PySem L2
section
variable {ρ lam α β γ σ : Type}
@[simp] theorem bindR_nx (a : α) (f : α → O ρ lam β) : bindR (.nx a) f = f a := rfl
@[simp] theorem bindR_er (x : Er) (f : α → O ρ lam β) : bindR (.er x) f = .er x := rfl
@[simp] theorem bind_nx (a : α) (f : α → O ρ lam β) : O.bind (.nx a) f = f a := rfl
@[simp] theorem bind_rt (a : ρ) (f : α → O ρ lam β) : O.bind (.rt a) f = .rt a := rfl
@[simp] theorem bind_er (a : Er) (f : α → O ρ lam β) : O.bind (.er a : O ρ lam α) f = .er a := rfl
@[simp] theorem lt_eq (e : β) (f : β → γ) : lt e f = f e := rfl
@[simp] theorem fin_rt (r : ρ) (d : α → R ρ) : fin (.rt r) d = .nx r := rfl
@[simp] theorem fin_nx (r : α) (d : α → R ρ) : fin (.nx r) d = d r := rfl
@[simp] theorem fin_er (x : Er) (d : α → R ρ) : fin (.er x) d = .er x := rfl
@[simp] theorem forO_nil (f : σ → β → O ρ σ σ) (s : σ) : (forO f [] s : O ρ lam σ) = .nx s := rfl
theorem forO_cons {f : σ → β → O ρ σ σ} {x : β} {xs : List β} {s s' : σ} (h : f s x = .nx s') : (forO f (x :: xs) s : O ρ lam σ) = forO f xs s' := by
  show (match f s x with
    | .nx s' => forO f xs s' | .ct s' => forO f xs s' | .bk s' => .nx s' | .rt r => .rt r | .er x => .er x | .stuck => .stuck) = _
  rw [h]
theorem forO_er {f : σ → β → O ρ σ σ} {x : β} {xs : List β} {s : σ} {e : Er} (h : f s x = .er e) : (forO f (x :: xs) s : O ρ lam σ) = .er e := by
  show (match f s x with
    | .nx s' => forO f xs s' | .ct s' => forO f xs s' | .bk s' => .nx s' | .rt r => .rt r | .er x => .er x | .stuck => .stuck) = _
  rw [h]
theorem forO_rt {f : σ → β → O ρ σ σ} {x : β} {xs : List β} {s : σ} {e : ρ} (h : f s x = .rt e) : (forO f (x :: xs) s : O ρ lam σ) = .rt e := by
  show (match f s x with
    | .nx s' => forO f xs s' | .ct s' => forO f xs s' | .bk s' => .nx s' | .rt r => .rt r | .er x => .er x | .stuck => .stuck) = _
  rw [h]
/-- each turn goes on; I by the turn -/
theorem forO_ind {f : σ → β → O ρ σ σ} (I : Nat → σ → Prop) : ∀ (xs : List β) (k : Nat) (s : σ), I k s → (∀ i s x, xs[i]? = some x → I (k + i) s → ∃ s', f s x = .nx s' ∧ I (k + i + 1) s') → ∃ s', (forO f xs s : O ρ lam σ) = .nx s' ∧ I (k + xs.length) s'
  | [], k, s, h0, _ => ⟨s, rfl, h0⟩
  | x :: xs, k, s, h0, h => by
    obtain ⟨s1, e, h1⟩ := h 0 s x rfl h0
    obtain ⟨s2, e2, h2⟩ := forO_ind I xs (k + 1) s1 h1 fun i s y hy hi => by
      have q := h (i + 1) s y (by simpa using hy) (by rw [show k + (i + 1) = k + 1 + i by omega]; exact hi)
      rw [show k + (i + 1) + 1 = k + 1 + i + 1 by omega] at q
      exact q
    refine ⟨s2, by rw [forO_cons e]; exact e2, ?_⟩
    rw [List.length_cons, show k + (xs.length + 1) = k + 1 + xs.length by omega]
    exact h2
theorem forO_inv {f : σ → β → O ρ σ σ} (I : σ → Prop) (xs : List β) (s : σ) (h0 : I s) (h : ∀ s x, x ∈ xs → I s → ∃ s', f s x = .nx s' ∧ I s') : ∃ s', (forO f xs s : O ρ lam σ) = .nx s' ∧ I s' := by
  obtain ⟨s', e, q⟩ := forO_ind (lam := lam) (f := f) (fun _ => I) xs 0 s h0 fun i s x hx hi => h s x (List.mem_of_getElem? hx) hi
  exact ⟨s', e, q⟩
/-- each turn is a step of a fold -/
theorem forO_fold {f : σ → β → O ρ σ σ} (g : σ → β → σ) : ∀ (xs : List β) (s : σ) (I : σ → Prop), I s → (∀ s x, x ∈ xs → I s → f s x = .nx (g s x) ∧ I (g s x)) → (forO f xs s : O ρ lam σ) = .nx (xs.foldl g s) ∧ I (xs.foldl g s)
  | [], s, I, h0, _ => ⟨rfl, h0⟩
  | x :: xs, s, I, h0, h => by
    obtain ⟨e, h1⟩ := h s x List.mem_cons_self h0
    rw [forO_cons e]
    exact forO_fold g xs (g s x) I h1 fun s y hy hi => h s y (List.mem_cons_of_mem _ hy) hi
theorem lcR_map {s : σ} {f : σ → β → R (σ × Option γ)} (g : β → γ) : ∀ (xs : List β) (acc : List γ), (∀ b, b ∈ xs → f s b = .nx (s, some (g b))) → acc.length + xs.length ≤ 1000000 → lcR f xs s acc = .nx (s, acc ++ xs.map g)
  | [], acc, _, _ => by rw [List.map_nil, List.append_nil]; rfl
  | x :: xs, acc, h, hl => by
    have e := h x List.mem_cons_self
    have hl' : acc.length < 1000000 := by simp at hl; omega
    unfold lcR
    rw [e]
    show (if acc.length < 1000000 then lcR f xs s (acc ++ [g x]) else .stuck) = _
    rw [if_pos hl', lcR_map g xs (acc ++ [g x]) (fun b hb => h b (List.mem_cons_of_mem _ hb)) (by simp at hl ⊢; omega), List.append_assoc]
    rfl
theorem gd_true {c : Bool} {a : α} (h : c = true) : gd c a = .nx a := by
  subst h
  rfl
theorem modR_nx {a b : Int} (h : 0 < b) : modR a b = .nx (a % b) := gd_true (decide_eq_true h)
theorem divR_nx {a b : Int} (h : 0 < b) (h2 : b < 1073741824) : divR a b = .nx (a / b) := gd_true (by simp [h, h2])
theorem mulR_nx {a b : Int} (h : 0 ≤ a ∧ a < 1000000000000000000 ∨ 0 ≤ b ∧ b < 1000000000000000000) : mulR a b = .nx (a * b) := by
  unfold mulR
  exact gd_true (by
    simp only [Bool.or_eq_true, Bool.and_eq_true, decide_eq_true_eq]
    omega)
theorem rngR_nx {a b : Int} (h : -1000000000 ≤ a ∧ a ≤ 1000000000 ∧ -1000000000 ≤ b ∧ b ≤ 1000000000) : rngR a b = .nx (rangeL a b) := by
  rw [rngR_eq]
  exact gd_true (by simp only [Bool.and_eq_true, decide_eq_true_eq]; omega)
theorem appR_nx {xs : List α} {x : α} (h : xs.length < 1000000) : appR xs x = .nx (xs ++ [x]) := gd_true (decide_eq_true h)
theorem catR_nx {xs ys : List α} (h : xs.length + ys.length ≤ 1000000) : catR xs ys = .nx (xs ++ ys) := gd_true (decide_eq_true h)
theorem ixN_nat {n k : Nat} (h : k < n) : ixN n (k : Int) = some k := by
  unfold ixN
  rw [if_pos (by omega), if_pos (by omega)]
  rfl
theorem idx_nat {xs : List α} {k : Nat} {a : α} (h : xs[k]? = some a) : idx xs (k : Int) = .nx a := by
  have hk : k < xs.length := (List.getElem?_eq_some_iff.mp h).1
  unfold idx atI
  rw [ixN_nat hk]
  show (match xs[k]? with
    | some a => O.nx a
    | none => .stuck) = _
  rw [h]
theorem mem_rangeL {a b x : Int} : x ∈ rangeL a b ↔ a ≤ x ∧ x < b := by
  unfold rangeL
  simp only [List.mem_map, List.mem_range]
  constructor
  · rintro ⟨i, h1, rfl⟩
    omega
  · rintro ⟨h1, h2⟩
    exact ⟨(x - a).toNat, by omega, by omega⟩
theorem rangeL_get0 {n i : Nat} {x : Int} (h : (rangeL 0 (n : Int))[i]? = some x) : x = (i : Int) ∧ i < n := by
  have e := rangeL_get h
  have l := (List.getElem?_eq_some_iff.mp h).1
  rw [rangeL_len] at l
  omega
/-! ### what a mirror ends with -/
variable {N : α → Prop} {N' : β → Prop} {T : ρ → Prop} {B C : lam → Prop} {E : Er → Prop}
theorem o_bindR {m : R α} {f : α → O ρ lam β} (h : OutR m (fun a => Out (f a) N' T B C E) E) : Out (bindR m f) N' T B C E := by
  cases m <;> first | exact h | (rename_i z; exact z.elim)
theorem o_bind {m : O ρ lam α} {f : α → O ρ lam β} (h : Out m (fun a => Out (f a) N' T B C E) T B C E) : Out (m.bind f) N' T B C E := by
  cases m <;> exact h
theorem o_lt {e : γ} {f : γ → O ρ lam α} (h : Out (f e) N T B C E) : Out (lt e f) N T B C E := h
theorem o_ite {b : Bool} {m1 m2 : O ρ lam α} (h1 : b = true → Out m1 N T B C E) (h2 : b = false → Out m2 N T B C E) : Out (if b then m1 else m2) N T B C E := by
  cases b with
  | true => exact h1 rfl
  | false => exact h2 rfl
theorem o_nx {a : α} (h : N a) : Out (.nx a : O ρ lam α) N T B C E := h
theorem o_rt {a : ρ} (h : T a) : Out (.rt a : O ρ lam α) N T B C E := h
theorem o_er {a : Er} (h : E a) : Out (.er a : O ρ lam α) N T B C E := h
theorem o_fin {m : O ρ Empty α} {d : α → R ρ} {N : ρ → Prop} (h : Out m (fun a => OutR (d a) N E) N (fun _ => True) (fun _ => True) E) : OutR (fin m d) N E := by
  cases m <;> first | exact h | (rename_i z; exact z.elim)
theorem o_gd {c : Bool} {a : α} (h : c = true) (k : N a) : OutR (gd c a) N E := by
  rw [gd_true h]
  exact k
theorem o_eq {m : R α} {a : α} (h : m = .nx a) (k : N a) : OutR m N E := by
  rw [h]
  exact k
theorem o_val {m : R α} (h : OutR m N (fun _ => False)) : ∃ a, m = .nx a ∧ N a := by
  cases m with
  | nx a => exact ⟨a, rfl, h⟩
  | rt r => exact r.elim
  | bk r => exact r.elim
  | ct r => exact r.elim
  | er x => exact h.elim
  | stuck => exact h.elim
theorem o_forO {f : σ → β → O ρ σ σ} {N : σ → Prop} (I : Nat → σ → Prop) : ∀ {xs : List β} {k : Nat} {s : σ}, I k s → (∀ i s x, xs[i]? = some x → I (k + i) s → Out (f s x) (I (k + i + 1)) T N (I (k + i + 1)) E) → (∀ s, I (k + xs.length) s → N s) → Out (forO f xs s : O ρ lam σ) N T B C E
  | [], k, s, h0, _, hk => hk s h0
  | x :: xs, k, s, h0, h, hk => by
    have q := h 0 s x rfl h0
    have go : ∀ s', I (k + 1) s' → Out (forO f xs s' : O ρ lam σ) N T B C E := fun s' h1 => o_forO I (k := k + 1) h1 (fun i s y hy hi => by
      have q := h (i + 1) s y (by simpa using hy) (by rw [show k + (i + 1) = k + 1 + i by omega]; exact hi)
      rw [show k + (i + 1) + 1 = k + 1 + i + 1 by omega] at q
      exact q) fun s hs => hk s (by rw [List.length_cons, show k + (xs.length + 1) = k + 1 + xs.length by omega]; exact hs)
    show Out (match f s x with
      | .nx s' => forO f xs s' | .ct s' => forO f xs s' | .bk s' => .nx s' | .rt r => .rt r | .er x => .er x | .stuck => .stuck) N T B C E
    cases e : f s x <;> rw [e] at q
    · exact go _ q
    · exact q
    · exact q
    · exact go _ q
    · exact q
    · exact q
theorem o_for {f : σ → β → O ρ σ σ} {N : σ → Prop} (I : Nat → σ → Prop) {xs : List β} {s : σ} (h0 : I 0 s) (h : ∀ i s x, xs[i]? = some x → I i s → Out (f s x) (I (i + 1)) T N (I (i + 1)) E) (hk : ∀ s, I xs.length s → N s) : Out (forO f xs s : O ρ lam σ) N T B C E :=
  o_forO I (k := 0) h0 (fun i s x hx hi => by rw [Nat.zero_add] at hi ⊢; exact h i s x hx hi) fun s hs => by rw [Nat.zero_add] at hs; exact hk s hs
theorem o_while {c : σ → R (σ × Bool)} {f : σ → O ρ σ σ} {N : σ → Prop} (I : σ → Prop) (m : σ → Nat) (h : ∀ s, I s → OutR (c s) (fun sb => (sb.2 = false → N sb.1) ∧ (sb.2 = true → Out (f sb.1) (fun s' => I s' ∧ m s' < m s) T N (fun s' => I s' ∧ m s' < m s) E)) E) :
    ∀ (n : Nat) (s : σ), I s → m s < n → Out (whileO c f n s : O ρ lam σ) N T B C E
  | 0, s, _, hm => absurd hm (by omega)
  | n + 1, s, hI, hm => by
    unfold whileO
    refine o_bindR ((h s hI).imp (fun sb q => ?_) fun _ q => q)
    cases e : sb.2 with
    | false => exact q.1 e
    | true =>
      have q2 := q.2 e
      rw [if_pos rfl]
      have go : ∀ s', (I s' ∧ m s' < m s) → Out (whileO c f n s' : O ρ lam σ) N T B C E := fun s' z => o_while I m h n s' z.1 (by omega)
      cases e3 : f sb.1 <;> rw [e3] at q2
      · exact go _ q2
      · exact q2
      · exact q2
      · exact go _ q2
      · exact q2
      · exact q2
theorem o_lcR {s : σ} {f : σ → β → R (σ × Option γ)} {xs : List β} {N : σ × List γ → Prop} (g : β → γ) (h : ∀ b, b ∈ xs → OutR (f s b) (fun r => r = (s, some (g b))) (fun _ => False)) (hl : xs.length ≤ 1000000) (hk : N (s, xs.map g)) : OutR (lcR f xs s []) N E := by
  refine o_eq (lcR_map g xs [] (fun b hb => ?_) (by simpa using hl)) (by simpa using hk)
  obtain ⟨r, e, q⟩ := o_val (h b hb)
  rw [e, q]
theorem o_r {m : R α} (h : Out m N (fun _ => True) (fun _ => True) (fun _ => True) E) : OutR m N E := h.outR
end
end Gv

set_option Elab.async false
set_option linter.all false
set_option maxRecDepth 100000
set_option maxHeartbeats 1000000
/-! Sw: orders of 0 .. n - 1, pairs that stand unlike, swaps of neighbours -/
namespace Sw
open PySem L2 Gv
/-- the place of k -/
def rk (o : List Int) (k : Int) : Nat := o.findIdx fun x => decide (x = k)
theorem rk_nil (k : Int) : rk [] k = 0 := rfl
theorem rk_cons (x : Int) (o : List Int) (k : Int) : rk (x :: o) k = if x = k then 0 else rk o k + 1 := by
  unfold rk
  rw [List.findIdx_cons]
  by_cases h : x = k
  · simp [h]
  · simp [h]
theorem rk_in {p r : List Int} {k : Int} (h : k ∈ p) : rk (p ++ r) k = rk p k := by
  induction p with
  | nil => cases h
  | cons x p ih =>
    rw [List.cons_append, rk_cons, rk_cons]
    by_cases e : x = k
    · rw [if_pos e, if_pos e]
    · rw [if_neg e, if_neg e, ih (by rcases List.mem_cons.mp h with h | h; exact absurd h.symm e; exact h)]
theorem rk_out {p r : List Int} {k : Int} (h : k ∉ p) : rk (p ++ r) k = p.length + rk r k := by
  induction p with
  | nil => simp
  | cons x p ih =>
    rw [List.cons_append, rk_cons, if_neg fun e => h (by rw [e]; exact List.mem_cons_self), ih fun z => h (List.mem_cons_of_mem _ z), List.length_cons]
    omega
theorem rk_lt {o : List Int} {k : Int} (h : k ∈ o) : rk o k < o.length := by
  induction o with
  | nil => cases h
  | cons x o ih =>
    rw [rk_cons, List.length_cons]
    split
    · omega
    · rename_i e
      have := ih (by rcases List.mem_cons.mp h with h | h; exact absurd h.symm e; exact h)
      omega
theorem rk_get {o : List Int} {k : Int} (h : k ∈ o) : o[rk o k]? = some k := by
  induction o with
  | nil => cases h
  | cons x o ih =>
    rw [rk_cons]
    split
    · rename_i e; rw [e]; rfl
    · rename_i e
      rw [List.getElem?_cons_succ]
      exact ih (by rcases List.mem_cons.mp h with h | h; exact absurd h.symm e; exact h)
theorem rk_inj {o : List Int} {a b : Int} (ha : a ∈ o) (hb : b ∈ o) (h : rk o a = rk o b) : a = b := by
  have e1 := rk_get ha
  have e2 := rk_get hb
  rw [h, e2] at e1
  exact (Option.some.inj e1).symm
theorem rk_at {o : List Int} (nd : o.Nodup) {i : Nat} {x : Int} (h : o[i]? = some x) : rk o x = i := by
  have hx : x ∈ o := List.mem_of_getElem? h
  have e := rk_get hx
  have h1 := rk_lt hx
  have h2 := (List.getElem?_eq_some_iff.mp h).1
  have e1 := (List.getElem?_eq_some_iff.mp h).2
  have e2 := (List.getElem?_eq_some_iff.mp e).2
  have pw := List.pairwise_iff_getElem.mp nd
  rcases Nat.lt_trichotomy (rk o x) i with c | c | c
  · exact absurd (e2.trans e1.symm) (pw _ _ h1 h2 c)
  · exact c
  · exact absurd (e1.trans e2.symm) (pw _ _ h2 h1 c)
theorem ixR_ok {o : List Int} {k : Int} (h : k ∈ o) : ixR o k = .nx (rk o k : Int) := by
  unfold ixR rk
  have : o.findIdx? (fun x => decide (x = k)) = some (o.findIdx fun x => decide (x = k)) := by
    rw [List.findIdx?_eq_some_iff_findIdx_eq]
    exact ⟨List.findIdx_lt_length_of_exists ⟨k, h, by simp⟩, rfl⟩
  rw [this]
/-- an order of 0 .. n - 1 -/
def Ord (n : Nat) (o : List Int) : Prop := o.Perm (rangeL 0 (n : Int))
theorem rangeL_nodup (a b : Int) : (rangeL a b).Nodup := by
  unfold rangeL
  exact List.Pairwise.map _ (fun i j h e => h (by have : a + (i : Int) = a + (j : Int) := e; omega)) List.nodup_range
theorem Ord.nodup {n : Nat} {o : List Int} (h : Ord n o) : o.Nodup := h.nodup_iff.mpr (rangeL_nodup _ _)
theorem Ord.len {n : Nat} {o : List Int} (h : Ord n o) : o.length = n := by rw [List.Perm.length_eq h, rangeL_len]; omega
theorem Ord.mem {n : Nat} {o : List Int} (h : Ord n o) {k : Int} : k ∈ o ↔ 0 ≤ k ∧ k < n := (List.Perm.mem_iff h).trans mem_rangeL
/-- a stands ahead of b -/
def bef (o : List Int) (a b : Int) : Bool := decide (rk o a < rk o b)
theorem bef_swap {p s : List Int} {x y a b : Int} (nd : (p ++ x :: y :: s).Nodup) (ha : a ∈ p ++ x :: y :: s) (hb : b ∈ p ++ x :: y :: s) (h : ¬ (a = x ∧ b = y)) (h' : ¬ (a = y ∧ b = x)) : bef (p ++ y :: x :: s) a b = bef (p ++ x :: y :: s) a b := by
  have nd' := List.nodup_append.mp nd
  obtain ⟨_, n2, n3⟩ := nd'
  have hxy : x ≠ y := fun e => (List.nodup_cons.mp n2).1 (by rw [e]; exact List.mem_cons_self)
  have hxp : x ∉ p := fun z => n3 x z x List.mem_cons_self rfl
  have hyp : y ∉ p := fun z => n3 y z y (List.mem_cons_of_mem _ List.mem_cons_self) rfl
  have out : ∀ z, z ∉ p → z ≠ x → z ≠ y → rk (p ++ y :: x :: s) z = p.length + (rk s z + 2) ∧ rk (p ++ x :: y :: s) z = p.length + (rk s z + 2) := fun z h1 h2 h3 => by
    rw [rk_out h1, rk_out h1, rk_cons, rk_cons, rk_cons, rk_cons, if_neg (Ne.symm h2), if_neg (Ne.symm h3), if_neg (Ne.symm h3), if_neg (Ne.symm h2)]
    exact ⟨rfl, rfl⟩
  have rx : rk (p ++ y :: x :: s) x = p.length + 1 ∧ rk (p ++ x :: y :: s) x = p.length := by
    rw [rk_out hxp, rk_out hxp, rk_cons, rk_cons, rk_cons, if_neg (Ne.symm hxy), if_pos rfl, if_pos rfl]
    exact ⟨rfl, rfl⟩
  have ry : rk (p ++ y :: x :: s) y = p.length ∧ rk (p ++ x :: y :: s) y = p.length + 1 := by
    rw [rk_out hyp, rk_out hyp, rk_cons, if_pos rfl, rk_cons, if_neg hxy, rk_cons, if_pos rfl]
    exact ⟨rfl, rfl⟩
  have tri : ∀ z, (z ∈ p ∧ rk (p ++ y :: x :: s) z = rk (p ++ x :: y :: s) z ∧ rk (p ++ x :: y :: s) z < p.length) ∨ z = x ∨ z = y ∨ (rk (p ++ y :: x :: s) z = rk (p ++ x :: y :: s) z ∧ p.length + 2 ≤ rk (p ++ x :: y :: s) z) := fun z => by
    by_cases hp : z ∈ p
    · exact .inl ⟨hp, by rw [rk_in hp, rk_in hp], by rw [rk_in hp]; exact rk_lt hp⟩
    · by_cases h1 : z = x
      · exact .inr (.inl h1)
      · by_cases h2 : z = y
        · exact .inr (.inr (.inl h2))
        · obtain ⟨e1, e2⟩ := out z hp h1 h2
          exact .inr (.inr (.inr ⟨e1.trans e2.symm, by rw [e2]; omega⟩))
  unfold bef
  obtain ⟨x1, x2⟩ := rx
  obtain ⟨y1, y2⟩ := ry
  rcases tri a with ⟨_, a1, a2⟩ | rfl | rfl | ⟨a1, a2⟩ <;> rcases tri b with ⟨_, b1, b2⟩ | rfl | rfl | ⟨b1, b2⟩ <;> first
    | (exact absurd ⟨rfl, rfl⟩ h)
    | (exact absurd ⟨rfl, rfl⟩ h')
    | (simp only [decide_eq_decide]; omega)
/-- the pairs low < high -/
def prs (n : Nat) : List (Int × Int) := (rangeL 0 (n : Int)).flatMap fun a => (rangeL (a + 1) (n : Int)).map fun b => (a, b)
theorem mem_prs {n : Nat} {q : Int × Int} : q ∈ prs n ↔ 0 ≤ q.1 ∧ q.1 < q.2 ∧ q.2 < n := by
  unfold prs
  rw [List.mem_flatMap]
  constructor
  · rintro ⟨a, ha, h⟩
    obtain ⟨b, hb, rfl⟩ := List.mem_map.mp h
    have := mem_rangeL.mp ha
    have := mem_rangeL.mp hb
    exact ⟨by omega, by show a < b; omega, by omega⟩
  · rintro ⟨h1, h2, h3⟩
    exact ⟨q.1, mem_rangeL.mpr ⟨h1, by omega⟩, List.mem_map.mpr ⟨q.2, mem_rangeL.mpr ⟨by omega, h3⟩, rfl⟩⟩
theorem nodup_fm {f : Int → List (Int × Int)} (h2 : ∀ a b q, q ∈ f a → q ∈ f b → a = b) (h1 : ∀ a, (f a).Nodup) : ∀ {l : List Int}, l.Nodup → (l.flatMap f).Nodup
  | [], _ => .nil
  | a :: l, nd => by
    obtain ⟨n1, n2⟩ := List.nodup_cons.mp nd
    rw [List.flatMap_cons]
    refine List.nodup_append.mpr ⟨h1 a, nodup_fm h2 h1 n2, fun q hq r hr e => ?_⟩
    subst e
    obtain ⟨b, hb, hq2⟩ := List.mem_flatMap.mp hr
    have := h2 a b q hq hq2
    exact n1 (by rw [this]; exact hb)
theorem prs_nodup (n : Nat) : (prs n).Nodup := by
  unfold prs
  refine nodup_fm (fun a b q h1 h2 => ?_) (fun a => List.Pairwise.map _ (fun i j h e => h (Prod.mk.inj e).2) (rangeL_nodup _ _)) (rangeL_nodup _ _)
  obtain ⟨_, _, rfl⟩ := List.mem_map.mp h1
  obtain ⟨_, _, e⟩ := List.mem_map.mp h2
  exact (Prod.mk.inj e).1.symm
def un (o o' : List Int) (q : Int × Int) : Bool := !decide (bef o q.1 q.2 = bef o' q.1 q.2)
def U (n : Nat) (o o' : List Int) : List (Int × Int) := (prs n).filter (un o o')
theorem U_self (n : Nat) (o : List Int) : U n o o = [] := by
  unfold U
  rw [List.filter_eq_nil_iff]
  intro q _ h
  unfold un at h
  simp at h
theorem bef_ne {o : List Int} {a b : Int} (ha : a ∈ o) (hb : b ∈ o) (h : a ≠ b) : bef o b a = !bef o a b := by
  have : rk o a ≠ rk o b := fun e => h (rk_inj ha hb e)
  unfold bef
  by_cases c : rk o a < rk o b
  · rw [decide_eq_true c, decide_eq_false (by omega)]; rfl
  · rw [decide_eq_false c, decide_eq_true (by omega)]; rfl
/-- a swap of neighbours that stand unlike takes one unlike pair away -/
theorem U_swap {n : Nat} {p s o' : List Int} {x y : Int} (h : Ord n (p ++ x :: y :: s)) (h' : Ord n o') (hi : rk o' y < rk o' x) :
    (U n (p ++ y :: x :: s) o').length + 1 = (U n (p ++ x :: y :: s) o').length ∧ (∀ q, q ∈ U n (p ++ y :: x :: s) o' → q ∈ U n (p ++ x :: y :: s) o') ∧ ∃ q, q ∈ U n (p ++ x :: y :: s) o' ∧ (q = (x, y) ∨ q = (y, x)) := by
  have nd := h.nodup
  have hxm : x ∈ p ++ x :: y :: s := by simp
  have hym : y ∈ p ++ x :: y :: s := by simp
  have hx := h.mem.mp hxm
  have hy := h.mem.mp hym
  have hxo := h'.mem.mpr hx
  have hyo := h'.mem.mpr hy
  have hxy : x ≠ y := fun e => by subst e; omega
  have n2 := (List.nodup_append.mp nd).2.2
  have hxp : x ∉ p := fun z => n2 x z x List.mem_cons_self rfl
  have hyp : y ∉ p := fun z => n2 y z y (List.mem_cons_of_mem _ List.mem_cons_self) rfl
  have r1 : bef (p ++ x :: y :: s) x y = true := by
    unfold bef
    rw [rk_out hxp, rk_out hyp, rk_cons, if_pos rfl, rk_cons, if_neg hxy, rk_cons, if_pos rfl]
    exact decide_eq_true (by omega)
  have r2 : bef (p ++ y :: x :: s) x y = false := by
    unfold bef
    rw [rk_out hxp, rk_out hyp, rk_cons, if_neg (Ne.symm hxy), rk_cons, if_pos rfl, rk_cons, if_pos rfl]
    exact decide_eq_false (by omega)
  have r3 : bef o' x y = false := decide_eq_false (by omega)
  have hs : Ord n (p ++ y :: x :: s) := (List.Perm.append_left p (.swap x y s)).trans h
  have r1' : bef (p ++ x :: y :: s) y x = false := by rw [bef_ne hxm hym hxy, r1]; rfl
  have r2' : bef (p ++ y :: x :: s) y x = true := by rw [bef_ne (hs.mem.mpr hx) (hs.mem.mpr hy) hxy, r2]; rfl
  have r3' : bef o' y x = true := by rw [bef_ne hxo hyo hxy, r3]; rfl
  obtain ⟨m, hm, hmem⟩ : ∃ m : Int × Int, (m = (x, y) ∨ m = (y, x)) ∧ m ∈ prs n := by
    by_cases c : x < y
    · exact ⟨(x, y), .inl rfl, mem_prs.mpr ⟨hx.1, c, hy.2⟩⟩
    · exact ⟨(y, x), .inr rfl, mem_prs.mpr ⟨hy.1, by show y < x; omega, hx.2⟩⟩
  have u1 : un (p ++ x :: y :: s) o' m = true := by
    rcases hm with rfl | rfl
    · unfold un; rw [r1, r3]; rfl
    · unfold un; rw [r1', r3']; rfl
  have key : U n (p ++ y :: x :: s) o' = (U n (p ++ x :: y :: s) o').filter fun q => decide (q ≠ m) := by
    unfold U
    rw [List.filter_filter]
    refine List.filter_congr fun q hq => ?_
    obtain ⟨q1, q2, q3⟩ := mem_prs.mp hq
    by_cases e : q = m
    · subst e
      have : un (p ++ y :: x :: s) o' q = false := by
        rcases hm with rfl | rfl
        · unfold un; rw [r2, r3]; rfl
        · unfold un; rw [r2', r3']; rfl
      rw [this]
      simp
    · rw [show (decide (q ≠ m)) = true from decide_eq_true e, Bool.true_and]
      unfold un
      rw [bef_swap nd (h.mem.mpr ⟨q1, by omega⟩) (h.mem.mpr ⟨by omega, q3⟩)]
      · rintro ⟨e1, e2⟩
        have em : q = (x, y) := Prod.ext e1 e2
        rcases hm with hm | hm
        · exact e (em.trans hm.symm)
        · have := (mem_prs.mp hmem).2.1
          rw [hm] at this
          rw [em] at q2
          have a1 : y < x := this
          have a2 : x < y := q2
          omega
      · rintro ⟨e1, e2⟩
        have em : q = (y, x) := Prod.ext e1 e2
        rcases hm with hm | hm
        · have := (mem_prs.mp hmem).2.1
          rw [hm] at this
          rw [em] at q2
          have a1 : x < y := this
          have a2 : y < x := q2
          omega
        · exact e (em.trans hm.symm)
  have hmU : m ∈ U n (p ++ x :: y :: s) o' := List.mem_filter.mpr ⟨hmem, u1⟩
  have ndU : (U n (p ++ x :: y :: s) o').Nodup := (prs_nodup n).sublist List.filter_sublist
  refine ⟨?_, fun q hq => ?_, m, hmU, hm⟩
  · rw [key]
    have e2 : ((U n (p ++ x :: y :: s) o').filter fun q => decide (q ≠ m)) = (U n (p ++ x :: y :: s) o').erase m := by
      rw [List.Nodup.erase_eq_filter ndU]
      refine List.filter_congr fun q _ => ?_
      by_cases e : q = m <;> simp [e]
    rw [e2, List.length_erase_of_mem hmU]
    have := List.length_pos_of_mem hmU
    omega
  · rw [key] at hq
    exact (List.mem_filter.mp hq).1
/-- an order by its own places is itself -/
theorem uniq_by {f : Int → Nat} : ∀ {l m : List Int}, l.Perm m → l.Pairwise (fun a b => f a < f b) → m.Pairwise (fun a b => f a < f b) → l = m
  | [], m, p, _, _ => (List.Perm.nil_eq p)
  | x :: l, [], p, _, _ => absurd p.length_eq (by simp)
  | x :: l, y :: m, p, hl, hm => by
    obtain ⟨l1, l2⟩ := List.pairwise_cons.mp hl
    obtain ⟨m1, m2⟩ := List.pairwise_cons.mp hm
    have e : x = y := by
      rcases List.mem_cons.mp (p.mem_iff.mp List.mem_cons_self) with e | hx
      · exact e
      · rcases List.mem_cons.mp (p.mem_iff.mpr List.mem_cons_self) with e | hy
        · exact e.symm
        · have := l1 y hy
          have := m1 x hx
          omega
    subst e
    rw [uniq_by p.cons_inv l2 m2]
theorem own_rk {o : List Int} (nd : o.Nodup) : o.Pairwise fun a b => rk o a < rk o b := by
  rw [List.pairwise_iff_getElem]
  intro i j hi hj hij
  rw [rk_at nd (List.getElem?_eq_getElem hi), rk_at nd (List.getElem?_eq_getElem hj)]
  exact hij
end Sw

set_option Elab.async false
set_option linter.all false
set_option maxRecDepth 100000
set_option maxHeartbeats 4000000
/-! the mirrors of the text's defs -/
namespace Lw
open PySem L2 Gv
def sub_BadBook (nm : Str) : Option Bool := if nm = "BadBook" then some true else if nm = "BadNumber" then some false else if nm = "RungsError" then some false else if nm = "TooMany" then some false else none
def sub_BadNumber (nm : Str) : Option Bool := if nm = "BadBook" then some false else if nm = "BadNumber" then some true else if nm = "RungsError" then some false else if nm = "TooMany" then some false else none
def sub_RungsError (nm : Str) : Option Bool := if nm = "BadBook" then some true else if nm = "BadNumber" then some true else if nm = "RungsError" then some true else if nm = "TooMany" then some true else none
def sub_TooMany (nm : Str) : Option Bool := if nm = "BadBook" then some false else if nm = "BadNumber" then some false else if nm = "RungsError" then some false else if nm = "TooMany" then some true else none
def m_is_whole (a : PyData) : O Bool Empty Empty :=
.rt ((isA "int" a) && (!(isA "bool" a)))
def f_is_whole (a : PyData) : R Bool := fin (m_is_whole a) fun z => z.elim
def m_whole_in (a : (PyData × Int × Int)) : O Bool Empty Empty :=
O.bind (bindR (f_is_whole a.1) fun r2 =>
if r2 then (bindR (intD a.1) fun t3 =>
.nx (decide (a.2.1 ≤ t3) && decide (t3 ≤ a.2.2))) else (.nx false)) fun (j1 : Bool) =>
.rt j1
def f_whole_in (a : (PyData × Int × Int)) : R Bool := fin (m_whole_in a) fun z => z.elim
def m_each_once (a : (PyData × Int)) : O Bool Empty Empty :=
O.bind (if (!(isA "list" a.1 || isA "tuple" a.1)) then (.nx true) else (bindR (lenD a.1) fun t2 =>
.nx (!decide (t2 = a.2)))) fun (j1 : Bool) =>
if j1 then (.rt false) else (bindR (itemsD a.1) fun l3 =>
(forO (fun (s4 : Unit) (b5 : PyData) =>
bindR (f_whole_in (b5, (0 : Int), (a.2 - (1 : Int)))) fun r6 =>
if (!r6) then (.rt false) else (.nx ())) l3 ()).bind fun (s4 : Unit) =>
bindR (setLenR a.1) fun t7 =>
.rt (decide (t7 = a.2)))
def f_each_once (a : (PyData × Int)) : R Bool := fin (m_each_once a) fun z => z.elim
def m_is_name (a : PyData) : O Bool Empty Empty :=
O.bind (if (!(isA "str" a)) then (.nx true) else (bindR (strD a) fun t2 =>
bindR (lenS t2) fun t3 =>
if (decide (t3 < (1 : Int))) then (.nx true) else (bindR (strD a) fun t4 =>
bindR (lenS t4) fun t5 =>
if (decide ((40 : Int) < t5)) then (.nx true) else (bindR (strD a) fun t6 =>
.nx (decide (t6 ∈ [("not" : Str), ("and" : Str), ("or" : Str), ("rise" : Str), ("fall" : Str)])))))) fun (j1 : Bool) =>
if j1 then (.rt false) else (bindR (strD a) fun t7 =>
(forO (fun (s8 : Unit) (b9 : Str) =>
bindR (sgR b9 ("abcdefghijklmnopqrstuvwxyz0123456789." : Str)) fun t10 =>
if (!t10) then (.rt false) else (.nx ())) (signs t7) ()).bind fun (s8 : Unit) =>
O.bind (bindR (strD a) fun t12 =>
bindR (chR t12 (0 : Int)) fun t13 =>
bindR (sgR t13 ("abcdefghijklmnopqrstuvwxyz" : Str)) fun t14 =>
if t14 then (bindR (strD a) fun t15 =>
bindR (chR t15 (-(1 : Int))) fun t16 =>
.nx (!decide (t16 = ("." : Str)))) else (.nx false)) fun (j11 : Bool) =>
.rt j11)
def f_is_name (a : PyData) : R Bool := fin (m_is_name a) fun z => z.elim
def m_frame_rung_fits (a : PyData) : O Bool Empty Empty :=
O.bind (if (!(isA "tuple" a)) then (.nx true) else (bindR (lenD a) fun t2 =>
if (!decide (t2 = (2 : Int))) then (.nx true) else (bindR (atD a (0 : Int)) fun t3 =>
.nx (!(isA "tuple" t3))))) fun (j1 : Bool) =>
if j1 then (.rt false) else (bindR (atD a (0 : Int)) fun t4 =>
bindR (tupD t4) fun t5 =>
bindR (atD a (1 : Int)) fun t6 =>
bindR (catR t5 ([t6])) fun t7 =>
(forO (fun (s8 : Unit) (b9 : PyData) =>
bindR (f_is_name b9) fun r10 =>
if (!r10) then (.rt false) else (.nx ())) t7 ()).bind fun (s8 : Unit) =>
bindR (atD a (0 : Int)) fun t11 =>
bindR (atD a (0 : Int)) fun t12 =>
bindR (cutD t12 (some (1 : Int)) none) fun t13 =>
bindR (zipD t11 t13) fun l14 =>
(forO (fun (s15 : Unit) (b16 : (PyData × PyData)) =>
bindR (strD b16.2) fun t17 =>
bindR (strD b16.1) fun t18 =>
if (geS t18 t17) then (.rt false) else (.nx ())) l14 ()).bind fun (s15 : Unit) =>
.rt true)
def f_frame_rung_fits (a : PyData) : R Bool := fin (m_frame_rung_fits a) fun z => z.elim
def m_check_frame (a : PyData) : O Unit Empty Unit :=
bindR (lenD a) fun t1 =>
if (decide ((8 : Int) < t1)) then (.er ⟨"TooMany", [("limit", (PyData.int (8 : Int)))]⟩) else (lt ([]) fun (written_2 : (List Str)) =>
bindR (itemsD a) fun l3 =>
(forO (fun (s4 : (List Str)) (b5 : (Int × PyData)) =>
O.bind (bindR (f_frame_rung_fits b5.2) fun r7 =>
if (!r7) then (.nx true) else (bindR (atD b5.2 (1 : Int)) fun t8 =>
bindR (strD t8) fun t9 =>
.nx (decide (t9 ∈ s4)))) fun (j6 : Bool) =>
if j6 then (.er ⟨"BadBook", [("place", (PyData.int b5.1)), ("word", (PyData.str ("frame" : Str)))]⟩) else (bindR (atD b5.2 (1 : Int)) fun t10 =>
bindR (strD t10) fun t11 =>
bindR (appR s4 t11) fun ys12 =>
.nx ys12)) (enumL l3) written_2).bind fun (s4 : (List Str)) =>
.nx ())
def f_check_frame (a : PyData) : R Unit := fin (m_check_frame a) .nx
def m_touching (a : PyData) : O (List (Int × Int)) Empty Empty :=
bindR (f_check_frame a) fun r1 =>
bindR (lenD a) fun t2 =>
bindR (rngR 0 t2) fun l3 =>
bindR (lc2R (fun (b4 : Int) => rngR (b4 + (1 : Int)) t2) (fun (b4 : Int) (b5 : Int) =>
O.bind (bindR (atD a b4) fun t8 =>
bindR (atD t8 (1 : Int)) fun t9 =>
bindR (atD a b5) fun t10 =>
bindR (atD t10 (0 : Int)) fun t11 =>
bindR (textsD t11) fun t12 =>
bindR (strD t9) fun t13 =>
if (decide (t13 ∈ t12)) then (.nx true) else (bindR (atD a b5) fun t14 =>
bindR (atD t14 (1 : Int)) fun t15 =>
bindR (atD a b4) fun t16 =>
bindR (atD t16 (0 : Int)) fun t17 =>
bindR (textsD t17) fun t18 =>
bindR (strD t15) fun t19 =>
.nx (decide (t19 ∈ t18)))) fun (j7 : Bool) =>
if j7 then (.nx (some (b4, b5))) else (.nx none)) l3 []) fun r6 =>
.rt r6
def f_touching (a : PyData) : R (List (Int × Int)) := fin (m_touching a) fun z => z.elim
def m_directed (a : (PyData × PyData)) : O (List (Int × Int)) Empty Empty :=
bindR (itemsD a.2) fun l1 =>
bindR (dcR (fun (b2 : (Int × PyData)) =>
bindR (intD b2.2) fun t4 =>
.nx (t4, b2.1)) (enumL l1) []) fun r3 =>
bindR (f_touching a.1) fun r5 =>
bindR (lcR (fun (s7 : Unit) (b6 : (Int × Int)) =>
O.bind (bindR (getI r3 b6.1) fun t10 =>
bindR (getI r3 b6.2) fun t11 =>
if (decide (t10 < t11)) then (.nx b6) else (.nx (b6.2, b6.1))) fun (j9 : (Int × Int)) =>
.nx ((), some j9)) r5 () []) fun r8 =>
.rt r8.2
def f_directed (a : (PyData × PyData)) : R (List (Int × Int)) := fin (m_directed a) fun z => z.elim
def m_parted (a : (PyData × PyData × PyData)) : O (Option (Int × Int)) Empty Empty :=
bindR (f_directed (a.1, a.2.1)) fun r1 =>
bindR (f_directed (a.1, a.2.2)) fun r2 =>
(forO (fun (s3 : Unit) (b4 : ((Int × Int) × (Int × Int))) =>
if (!decide (b4.1 = b4.2)) then (.rt (some b4.1)) else (.nx ())) (List.zip r1 r2) ()).bind fun (s3 : Unit) =>
.rt none
def f_parted (a : (PyData × PyData × PyData)) : R (Option (Int × Int)) := fin (m_parted a) fun z => z.elim
def m_check_two_orders (a : (PyData × PyData × PyData)) : O Unit Empty Unit :=
bindR (lenD a.1) fun t1 =>
bindR (f_each_once (a.2.1, t1)) fun r2 =>
if (!r2) then (.er ⟨"BadNumber", [("word", (PyData.str ("order" : Str)))]⟩) else (bindR (lenD a.1) fun t3 =>
bindR (f_each_once (a.2.2, t3)) fun r4 =>
if (!r4) then (.er ⟨"BadNumber", [("word", (PyData.str ("other" : Str)))]⟩) else (.nx ()))
def f_check_two_orders (a : (PyData × PyData × PyData)) : R Unit := fin (m_check_two_orders a) .nx
def m_same_for_all (a : (PyData × PyData × PyData)) : O Bool Empty Empty :=
bindR (f_check_frame a.1) fun r1 =>
bindR (f_check_two_orders (a.1, a.2.1, a.2.2)) fun r2 =>
bindR (f_parted (a.1, a.2.1, a.2.2)) fun r3 =>
.rt ((r3).isNone)
def f_same_for_all (a : (PyData × PyData × PyData)) : R Bool := fin (m_same_for_all a) fun z => z.elim
def m_swaps (a : (PyData × PyData × PyData)) : O (Option (List Int)) Empty Empty :=
bindR (f_check_frame a.1) fun r1 =>
bindR (f_check_two_orders (a.1, a.2.1, a.2.2)) fun r2 =>
bindR (f_parted (a.1, a.2.1, a.2.2)) fun r3 =>
if (!(r3).isNone) then (.rt none) else (bindR (itemsD a.2.1) fun l4 =>
bindR (lcR (fun (s6 : Unit) (b5 : PyData) =>
bindR (itemsD a.2.2) fun t8 =>
bindR (intsR t8) fun t9 =>
bindR (intD b5) fun t10 =>
bindR (ixR t9 t10) fun t11 =>
.nx ((), some t11)) l4 () []) fun r7 =>
lt ([]) fun (found_12 : (List Int)) =>
lt (0 : Int) fun (at_13 : Int) =>
(whileO (fun (s14 : ((List Int) × (List Int) × Int)) =>
.nx (s14, (decide ((s14.2.2 + (1 : Int)) < ((s14.1).length : Int))))) (fun (s14 : ((List Int) × (List Int) × Int)) =>
bindR (idx s14.1 s14.2.2) fun t15 =>
bindR (idx s14.1 (s14.2.2 + (1 : Int))) fun t16 =>
if (decide (t16 < t15)) then (bindR (idx s14.1 (s14.2.2 + (1 : Int))) fun t17 =>
bindR (idx s14.1 s14.2.2) fun t18 =>
bindR (setR s14.1 s14.2.2 ((t17, t18).1)) fun ys19 =>
bindR (setR ys19 (s14.2.2 + (1 : Int)) ((t17, t18).2)) fun ys20 =>
bindR (appR s14.2.1 s14.2.2) fun ys21 =>
lt (maxI (s14.2.2 - (1 : Int)) (0 : Int)) fun (at_22 : Int) =>
.nx (ys20, ys21, at_22)) else (lt (s14.2.2 + (1 : Int)) fun (at_23 : Int) =>
.nx (s14.1, s14.2.1, at_23))) 100000 (r7.2, found_12, at_13)).bind fun (s14 : ((List Int) × (List Int) × Int)) =>
.rt (some s14.2.1))
def f_swaps (a : (PyData × PyData × PyData)) : R (Option (List Int)) := fin (m_swaps a) fun z => z.elim
def m_directions (a : (PyData × PyData)) : O (List (Int × Int)) Empty Empty :=
bindR (f_check_frame a.1) fun r1 =>
bindR (lenD a.1) fun t2 =>
bindR (f_each_once (a.2, t2)) fun r3 =>
if (!r3) then (.er ⟨"BadNumber", [("word", (PyData.str ("order" : Str)))]⟩) else (bindR (f_directed (a.1, a.2)) fun r4 =>
.rt (sortP r4))
def f_directions (a : (PyData × PyData)) : R (List (Int × Int)) := fin (m_directions a) fun z => z.elim
def m_law_numbers (a : (List Int)) : O (List Int) Empty Empty :=
lt ([]) fun (numbers_1 : (List Int)) =>
bindR (rngR 0 (minI ((a).length : Int) (63 : Int))) fun l2 =>
(forO (fun (s3 : (List Int)) (b4 : Int) =>
bindR (idx a b4) fun t5 =>
lt (0 : Int) fun (turned_6 : Int) =>
O.bind (if (decide (t5 < (0 : Int))) then (lt ((0 : Int) - t5) fun (cell_8 : Int) =>
lt (1 : Int) fun (turned_9 : Int) =>
.nx (cell_8, turned_9)) else (.nx (t5, turned_6))) fun (s7 : (Int × Int)) =>
if (decide (((10 : Int) ^ ((18 : Int)).toNat) ≤ s7.1)) then (bindR (rngR 0 (45 : Int)) fun l10 =>
(forO (fun (s11 : ((List Int) × Int)) (b12 : Int) =>
if (decide ((0 : Int) < s11.2)) then (bindR (appR s11.1 (s11.2 % (60 : Int))) fun ys13 =>
lt (s11.2 / (60 : Int)) fun (cell_14 : Int) =>
.nx (ys13, cell_14)) else (.nx (s11.1, s11.2))) l10 (s3, s7.1)).bind fun (s11 : ((List Int) × Int)) =>
.nx s11.1) else (lt (((((s7.1 * (16807 : Int)) + (b4 * (7919 : Int))) + (s7.2 * (104729 : Int))) + (11 : Int)) % (2147483629 : Int)) fun (seed_15 : Int) =>
bindR (rngR 0 (7 : Int)) fun l16 =>
(forO (fun (s17 : ((List Int) × Int)) (b18 : Int) =>
bindR (mulR (s17.2 / (1000 : Int)) b18) fun t19 =>
lt ((((s17.2 * (39373 : Int)) + t19) + (7919 : Int)) % (2147483629 : Int)) fun (seed_20 : Int) =>
bindR (appR s17.1 ((seed_20 / (7 : Int)) % (55440 : Int))) fun ys21 =>
.nx (ys21, seed_20)) l16 (s3, seed_15)).bind fun (s17 : ((List Int) × Int)) =>
.nx s17.1)) l2 numbers_1).bind fun (s3 : (List Int)) =>
lt (List.reverse s3) fun (ys22 : (List Int)) =>
.rt ys22
def f_law_numbers (a : (List Int)) : R (List Int) := fin (m_law_numbers a) fun z => z.elim
def m_law_draw (a : ((List Int) × Int)) : O (Int × (List Int)) Empty Empty :=
if (decide (((a.1).length : Int) = (0 : Int))) then (.rt ((0 : Int), a.1)) else (bindR (popR a.1) fun t1 =>
bindR (modR t1.1 a.2) fun t2 =>
.rt (t2, t1.2))
def f_law_draw (a : ((List Int) × Int)) : R (Int × (List Int)) := fin (m_law_draw a) fun z => z.elim
def m_law_int (a : PyData) : O Bool Empty Empty :=
.rt ((isA "int" a) && (!(isA "bool" a)))
def f_law_int (a : PyData) : R Bool := fin (m_law_int a) fun z => z.elim
def m_law_pool (a : ((List Int) × Int)) : O ((List Str) × (List Int)) Empty Empty :=
lt ("xabkqmtzgw" : Str) fun (letters_1 : Str) =>
lt ([]) fun (pool_2 : (List Str)) =>
bindR (rngR 0 a.2) fun l3 =>
(forO (fun (s4 : ((List Int) × (List Str))) (b5 : Int) =>
bindR (f_law_draw (s4.1, (10 : Int))) fun r6 =>
bindR (chR letters_1 r6.1) fun t7 =>
bindR (f_law_draw (r6.2, (6 : Int))) fun r8 =>
O.bind (if (decide (r8.1 = (5 : Int))) then (bindR (addS t7 ("." : Str)) fun t10 =>
bindR (f_law_draw (r8.2, (10 : Int))) fun r11 =>
bindR (chR letters_1 r11.1) fun t12 =>
bindR (addS t10 t12) fun t13 =>
.nx (r11.2, t13)) else (.nx (r8.2, t7))) fun (s9 : ((List Int) × Str)) =>
O.bind (if (decide (r8.1 = (4 : Int))) then (bindR (f_law_draw (s9.1, (10 : Int))) fun r15 =>
bindR (chR letters_1 r15.1) fun t16 =>
bindR (addS s9.2 t16) fun t17 =>
.nx (r15.2, t17)) else (.nx (s9.1, s9.2))) fun (s14 : ((List Int) × Str)) =>
bindR (strR b5) fun t18 =>
bindR (addS s14.2 t18) fun t19 =>
bindR (appR s4.2 t19) fun ys20 =>
.nx (s14.1, ys20)) l3 (a.1, pool_2)).bind fun (s4 : ((List Int) × (List Str))) =>
.rt (s4.2, s4.1)
def f_law_pool (a : ((List Int) × Int)) : R ((List Str) × (List Int)) := fin (m_law_pool a) fun z => z.elim
def m_law_frame (a : ((List Int) × (List Str) × Int)) : O ((List ((List Str) × Str)) × (List Int)) Empty Empty :=
bindR (f_law_draw (a.1, (4 : Int))) fun r1 =>
bindR (idx ([(1 : Int), (2 : Int), (4 : Int), (6 : Int)]) r1.1) fun t2 =>
lt ([]) fun (frame_3 : (List ((List Str) × Str))) =>
bindR (rngR 0 a.2.2) fun l4 =>
(forO (fun (s5 : ((List Int) × (List ((List Str) × Str)))) (b6 : Int) =>
bindR (lcR (fun (s8 : (List Int)) (b7 : Str) =>
bindR (f_law_draw (s8, (8 : Int))) fun r10 =>
if (decide (((8 : Int) - t2) ≤ r10.1)) then (.nx (r10.2, some b7)) else (.nx (r10.2, none))) (cutL a.2.1 none (some (a.2.2 + (1 : Int)))) s5.1 []) fun r9 =>
bindR (gd (decide ((r9.2).length < 64)) (sortS r9.2)) fun t11 =>
bindR (idx a.2.1 b6) fun t12 =>
bindR (appR s5.2 (t11, t12)) fun ys13 =>
.nx (r9.1, ys13)) l4 (r1.2, frame_3)).bind fun (s5 : ((List Int) × (List ((List Str) × Str)))) =>
.rt (s5.2, s5.1)
def f_law_frame (a : ((List Int) × (List Str) × Int)) : R ((List ((List Str) × Str)) × (List Int)) := fin (m_law_frame a) fun z => z.elim
def m_law_touch (a : ((List ((List Str) × Str)) × Int × Int)) : O Bool Empty Empty :=
O.bind (bindR (idx a.1 a.2.1) fun t2 =>
bindR (idx a.1 a.2.2) fun t3 =>
if (decide (t2.2 ∈ t3.1)) then (.nx true) else (bindR (idx a.1 a.2.2) fun t4 =>
bindR (idx a.1 a.2.1) fun t5 =>
.nx (decide (t4.2 ∈ t5.1)))) fun (j1 : Bool) =>
.rt j1
def f_law_touch (a : ((List ((List Str) × Str)) × Int × Int)) : R Bool := fin (m_law_touch a) fun z => z.elim
def m_law_order (a : ((List Int) × Int)) : O ((List Int) × (List Int)) Empty Empty :=
bindR (lrgR a.2) fun _ =>
lt (rangeL 0 a.2) fun (left_2 : (List Int)) =>
lt ([]) fun (order_3 : (List Int)) =>
bindR (rngR 0 a.2) fun l4 =>
(forO (fun (s5 : ((List Int) × (List Int) × (List Int))) (b6 : Int) =>
bindR (f_law_draw (s5.1, ((s5.2.1).length : Int))) fun r7 =>
bindR (popAtR s5.2.1 r7.1) fun t8 =>
bindR (appR s5.2.2 t8.1) fun ys9 =>
.nx (r7.2, t8.2, ys9)) l4 (a.1, left_2, order_3)).bind fun (s5 : ((List Int) × (List Int) × (List Int))) =>
.rt (s5.2.2, s5.1)
def f_law_order (a : ((List Int) × Int)) : R ((List Int) × (List Int)) := fin (m_law_order a) fun z => z.elim
def m_law_led (a : ((List Int) × (List ((List Str) × Str)) × (List Int))) : O ((List Int) × (List Int)) Empty Empty :=
bindR (rngR 0 (24 : Int)) fun l1 =>
(forO (fun (s2 : ((List Int) × (List Int))) (b3 : Int) =>
if (decide ((1 : Int) < ((s2.2).length : Int))) then (bindR (f_law_draw (s2.1, (((s2.2).length : Int) - (1 : Int)))) fun r4 =>
bindR (idx s2.2 r4.1) fun t5 =>
bindR (idx s2.2 (r4.1 + (1 : Int))) fun t6 =>
bindR (f_law_touch (a.2.1, t5, t6)) fun r7 =>
if (!r7) then (bindR (idx s2.2 (r4.1 + (1 : Int))) fun t8 =>
bindR (idx s2.2 r4.1) fun t9 =>
bindR (setR s2.2 r4.1 ((t8, t9).1)) fun ys10 =>
bindR (setR ys10 (r4.1 + (1 : Int)) ((t8, t9).2)) fun ys11 =>
.nx (r4.2, ys11)) else (.nx (r4.2, s2.2))) else (.nx (s2.1, s2.2))) l1 (a.1, a.2.2)).bind fun (s2 : ((List Int) × (List Int))) =>
.rt (s2.2, s2.1)
def f_law_led (a : ((List Int) × (List ((List Str) × Str)) × (List Int))) : R ((List Int) × (List Int)) := fin (m_law_led a) fun z => z.elim
def m_law_unlike (a : ((List Int) × (List Int))) : O (List (Int × Int)) Empty Empty :=
lt ([]) fun (pairs_1 : (List (Int × Int))) =>
bindR (rngR 0 ((a.1).length : Int)) fun l2 =>
(forO (fun (s3 : (List (Int × Int))) (b4 : Int) =>
bindR (rngR (b4 + (1 : Int)) ((a.1).length : Int)) fun l5 =>
(forO (fun (s6 : (List (Int × Int))) (b7 : Int) =>
bindR (ixR a.1 b4) fun t8 =>
bindR (ixR a.1 b7) fun t9 =>
bindR (ixR a.2 b4) fun t10 =>
bindR (ixR a.2 b7) fun t11 =>
if (!decide ((decide (t8 < t9)) = (decide (t10 < t11)))) then (bindR (appR s6 (b4, b7)) fun ys12 =>
.nx ys12) else (.nx s6)) l5 s3).bind fun (s6 : (List (Int × Int))) =>
.nx s6) l2 pairs_1).bind fun (s3 : (List (Int × Int))) =>
.rt s3
def f_law_unlike (a : ((List Int) × (List Int))) : R (List (Int × Int)) := fin (m_law_unlike a) fun z => z.elim
def m_law_directions (a : ((List ((List Str) × Str)) × (List Int))) : O (List (Int × Int)) Empty Empty :=
lt ([]) fun (told_1 : (List (Int × Int))) =>
bindR (rngR 0 ((a.1).length : Int)) fun l2 =>
(forO (fun (s3 : (List (Int × Int))) (b4 : Int) =>
bindR (rngR (b4 + (1 : Int)) ((a.1).length : Int)) fun l5 =>
(forO (fun (s6 : (List (Int × Int))) (b7 : Int) =>
bindR (f_law_touch (a.1, b4, b7)) fun r8 =>
if r8 then (bindR (ixR a.2 b4) fun t9 =>
bindR (ixR a.2 b7) fun t10 =>
if (decide (t9 < t10)) then (bindR (appR s6 (b4, b7)) fun ys11 =>
.nx ys11) else (bindR (appR s6 (b7, b4)) fun ys12 =>
.nx ys12)) else (.nx s6)) l5 s3).bind fun (s6 : (List (Int × Int))) =>
.nx s6) l2 told_1).bind fun (s3 : (List (Int × Int))) =>
.rt (sortP s3)
def f_law_directions (a : ((List ((List Str) × Str)) × (List Int))) : R (List (Int × Int)) := fin (m_law_directions a) fun z => z.elim
def m_law_swaps_right (a : ((List ((List Str) × Str)) × (List Int) × (List Int))) : O Bool Empty Empty :=
bindR (f_swaps (((dT (dP2 (dT PyData.str) PyData.str)) a.1), ((dL PyData.int) a.2.1), ((dT PyData.int) a.2.2))) fun r1 =>
bindR (f_law_unlike (a.2.1, a.2.2)) fun r2 =>
bindR (lcR (fun (s4 : Unit) (b3 : (Int × Int)) =>
bindR (f_law_touch (a.1, b3.1, b3.2)) fun r6 =>
if r6 then (.nx ((), some b3)) else (.nx ((), none))) r2 () []) fun r5 =>
if (decide ((0 : Int) < ((r5.2).length : Int))) then (.rt ((r1).isNone)) else (O.bind (if (!(isA "tuple" ((dO (dT PyData.int)) r1))) then (.nx true) else (bindR (getR r1) fun t8 =>
.nx (!decide (((t8).length : Int) = ((r2).length : Int))))) fun (j7 : Bool) =>
if j7 then (.rt false) else (bindR (getR r1) fun t9 =>
(forO (fun (s10 : (List Int)) (b11 : Int) =>
O.bind (bindR (f_law_int (PyData.int b11)) fun r13 =>
if (!r13) then (.nx true) else (if (decide (b11 < (0 : Int))) then (.nx true) else (if (decide (((s10).length : Int) ≤ (b11 + (1 : Int)))) then (.nx true) else (bindR (idx s10 b11) fun t14 =>
bindR (idx s10 (b11 + (1 : Int))) fun t15 =>
bindR (f_law_touch (a.1, t14, t15)) fun r16 =>
.nx r16)))) fun (j12 : Bool) =>
if j12 then (.rt false) else (bindR (idx s10 (b11 + (1 : Int))) fun t17 =>
bindR (idx s10 b11) fun t18 =>
bindR (setR s10 b11 ((t17, t18).1)) fun ys19 =>
bindR (setR ys19 (b11 + (1 : Int)) ((t17, t18).2)) fun ys20 =>
.nx ys20)) t9 a.2.1).bind fun (s10 : (List Int)) =>
.rt (decide (s10 = a.2.2))))
def f_law_swaps_right (a : ((List ((List Str) × Str)) × (List Int) × (List Int))) : R Bool := fin (m_law_swaps_right a) fun z => z.elim
def m_law_word (a : (Int × PyData × PyData × PyData)) : O PyData Empty Empty :=
lt ((dP1 PyData.str) ("none" : Str)) fun (told_1 : PyData) =>
O.bind (tryO (if (decide (a.1 = (0 : Int))) then (bindR (f_swaps (a.2.1, a.2.2.1, a.2.2.2)) fun r4 =>
.nx told_1) else (bindR (f_directions (a.2.1, a.2.2.1)) fun r5 =>
.nx told_1)) (clO sub_TooMany (fun x2 => bindR (fldR x2 "TooMany" "limit") fun t6 =>
lt ((dP2 PyData.str id) (("many" : Str), t6)) fun (told_7 : PyData) =>
.nx told_7) (clO sub_BadBook (fun x2 => bindR (fldR x2 "BadBook" "word") fun t8 =>
bindR (fldR x2 "BadBook" "place") fun t9 =>
lt ((dP2 id id) (t8, t9)) fun (told_10 : PyData) =>
.nx told_10) (clO sub_BadNumber (fun x2 => bindR (fldR x2 "BadNumber" "word") fun t11 =>
lt ((dP2 PyData.str id) (("number" : Str), t11)) fun (told_12 : PyData) =>
.nx told_12) (clO sub_RungsError (fun x2 => lt ((dP1 PyData.str) ("other" : Str)) fun (told_13 : PyData) =>
.nx told_13) (fun x => .er x)))))) fun (s3 : PyData) =>
.rt s3
def f_law_word (a : (Int × PyData × PyData × PyData)) : R PyData := fin (m_law_word a) fun z => z.elim
def m_law_refused (a : ((List Str) × (List ((List Str) × Str)) × (List Int))) : O Bool Empty Empty :=
lt ((a.2.2).length : Int) fun (many_1 : Int) =>
bindR (catR a.2.2 ([(0 : Int)])) fun t2 =>
bindR (catR ([many_1]) (cutL a.2.2 (some (1 : Int)) none)) fun t3 =>
bindR (catR ([(-(1 : Int))]) (cutL a.2.2 (some (1 : Int)) none)) fun t4 =>
bindR (catR (List.map PyData.bool ([true])) (List.map PyData.int (cutL a.2.2 (some (1 : Int)) none))) fun t5 =>
(forO (fun (s6 : Unit) (b7 : PyData) =>
bindR (rngR 0 (2 : Int)) fun l8 =>
(forO (fun (s9 : Unit) (b10 : Int) =>
bindR (f_law_word (b10, ((dT (dP2 (dT PyData.str) PyData.str)) a.2.1), b7, (dN ()))) fun r11 =>
bindR (eqR r11 ((dP2 PyData.str PyData.str) (("number" : Str), ("order" : Str)))) fun t12 =>
if (!t12) then (.rt false) else (.nx ())) l8 ()).bind fun (s9 : Unit) =>
bindR (f_law_word ((0 : Int), ((dT (dP2 (dT PyData.str) PyData.str)) a.2.1), ((dL PyData.int) a.2.2), b7)) fun r13 =>
bindR (eqR r13 ((dP2 PyData.str PyData.str) (("number" : Str), ("other" : Str)))) fun t14 =>
if (!t14) then (.rt false) else (.nx ())) ([((dL PyData.int) (cutL a.2.2 (some (1 : Int)) none)), ((dL PyData.int) t2), ((dL PyData.int) t3), ((dL PyData.int) t4), ((dL id) t5), (dN ()), (PyData.int (3 : Int)), (PyData.str ("0" : Str))]) ()).bind fun (s6 : Unit) =>
O.bind (if (decide ((1 : Int) < many_1)) then (bindR (rngR 0 many_1) fun l16 =>
bindR (lcR (fun (s18 : Unit) (b17 : Int) =>
bindR (idx a.2.2 (0 : Int)) fun t20 =>
.nx ((), some t20)) l16 () []) fun r19 =>
bindR (f_law_word ((0 : Int), ((dT (dP2 (dT PyData.str) PyData.str)) a.2.1), ((dL PyData.int) a.2.2), ((dL PyData.int) r19.2))) fun r21 =>
bindR (eqR r21 ((dP2 PyData.str PyData.str) (("number" : Str), ("other" : Str)))) fun t22 =>
if (!t22) then (.rt false) else (bindR (f_law_word ((1 : Int), ((dT (dP2 (dT PyData.str) PyData.str)) a.2.1), ((dL PyData.int) r19.2), (PyData.int (0 : Int)))) fun r23 =>
bindR (eqR r23 ((dP2 PyData.str PyData.str) (("number" : Str), ("order" : Str)))) fun t24 =>
if (!t24) then (.rt false) else (.nx ()))) else (.nx ())) fun (s15 : Unit) =>
bindR (rngR 0 (2 : Int)) fun l25 =>
(forO (fun (s26 : Unit) (b27 : Int) =>
bindR (lcR (fun (s29 : Unit) (b28 : Str) =>
.nx ((), some (([] : List Int), b28))) (cutL a.1 none (some (9 : Int))) () []) fun r30 =>
bindR (f_law_word (b27, ((dT (dP2 (dT PyData.int) PyData.str)) r30.2), (dN ()), (dN ()))) fun r31 =>
bindR (eqR r31 ((dP2 PyData.str PyData.int) (("many" : Str), (8 : Int)))) fun t32 =>
if (!t32) then (.rt false) else (bindR (idx a.2.1 (0 : Int)) fun t33 =>
bindR (catR a.2.1 ([t33])) fun t34 =>
bindR (f_law_word (b27, ((dT (dP2 (dT PyData.str) PyData.str)) t34), (dN ()), (dN ()))) fun r35 =>
bindR (idx ([(("frame" : Str), many_1), (("many" : Str), (8 : Int))]) (if (decide (many_1 = (8 : Int))) then (1 : Int) else 0)) fun t36 =>
bindR (eqR r35 ((dP2 PyData.str PyData.int) t36)) fun t37 =>
if (!t37) then (.rt false) else (bindR (idx a.1 (0 : Int)) fun t38 =>
bindR (idx a.1 (0 : Int)) fun t39 =>
bindR (idx a.1 (0 : Int)) fun t40 =>
bindR (idx a.1 (1 : Int)) fun t41 =>
bindR (f_law_word (b27, ((dP2 (dP2 (dT PyData.int) PyData.str) (dP2 (dP2 PyData.str PyData.str) PyData.str)) ((([] : List Int), t38), ((t39, t40), t41))), (dN ()), (dN ()))) fun r42 =>
bindR (eqR r42 ((dP2 PyData.str PyData.int) (("frame" : Str), (1 : Int)))) fun t43 =>
if (!t43) then (.rt false) else (.nx ())))) l25 ()).bind fun (s26 : Unit) =>
.rt true
def f_law_refused (a : ((List Str) × (List ((List Str) × Str)) × (List Int))) : R Bool := fin (m_law_refused a) fun z => z.elim
def m_law (a : (List Int)) : O Bool Empty Empty :=
bindR (f_law_numbers a) fun r1 =>
bindR (f_law_pool (r1, (9 : Int))) fun r2 =>
bindR (f_law_draw (r2.2, (6 : Int))) fun r3 =>
lt ((1 : Int) + r3.1) fun (many_4 : Int) =>
O.bind (bindR (f_law_draw (r3.2, (6 : Int))) fun r6 =>
if (decide (r6.1 = (5 : Int))) then (lt (8 : Int) fun (many_7 : Int) =>
.nx (r6.2, many_7)) else (.nx (r6.2, many_4))) fun (s5 : ((List Int) × Int)) =>
bindR (f_law_frame (s5.1, r2.1, s5.2)) fun r8 =>
bindR (f_law_order (r8.2, s5.2)) fun r9 =>
bindR (f_law_led (r9.2, r8.1, r9.1)) fun r10 =>
bindR (f_law_order (r10.2, s5.2)) fun r11 =>
lt (List.reverse r9.1) fun (ys12 : (List Int)) =>
(forO (fun (s13 : Unit) (b14 : (List Int)) =>
O.bind (bindR (f_law_swaps_right (r8.1, r9.1, b14)) fun r16 =>
if (!r16) then (.nx true) else (bindR (f_law_swaps_right (r8.1, b14, r9.1)) fun r17 =>
.nx (!r17))) fun (j15 : Bool) =>
if j15 then (.rt false) else (bindR (f_directions (((dT (dP2 (dT PyData.str) PyData.str)) r8.1), ((dL PyData.int) r9.1))) fun r18 =>
bindR (f_directions (((dT (dP2 (dT PyData.str) PyData.str)) r8.1), ((dT PyData.int) b14))) fun r19 =>
O.bind (if (!(isA "tuple" ((dT (dP2 PyData.int PyData.int)) r18))) then (.nx true) else (bindR (f_law_directions (r8.1, r9.1)) fun r21 =>
.nx (!decide (r18 = r21)))) fun (j20 : Bool) =>
if j20 then (.rt false) else (O.bind (bindR (f_law_directions (r8.1, b14)) fun r23 =>
if (!decide (r19 = r23)) then (.nx true) else (bindR (f_same_for_all (((dT (dP2 (dT PyData.str) PyData.str)) r8.1), ((dL PyData.int) r9.1), ((dL PyData.int) b14))) fun r24 =>
.nx (!decide ((decide (r18 = r19)) = r24)))) fun (j22 : Bool) =>
if j22 then (.rt false) else (.nx ())))) ([r10.1, r11.1, ys12, r9.1]) ()).bind fun (s13 : Unit) =>
O.bind (bindR (f_directions (((dT PyData.int) ([] : List Int)), ((dT PyData.int) ([] : List Int)))) fun r26 =>
bindR (eqR ((dT (dP2 PyData.int PyData.int)) r26) ((dT PyData.int) ([] : List Int))) fun t27 =>
if (!t27) then (.nx true) else (bindR (f_swaps (((dT PyData.int) ([] : List Int)), ((dT PyData.int) ([] : List Int)), ((dL PyData.int) ([] : List Int)))) fun r28 =>
if (!decide ((r28 : (Option (List Int))) = ((some ([] : List Int)) : (Option (List Int))))) then (.nx true) else (bindR (f_same_for_all (((dL PyData.int) ([] : List Int)), ((dL PyData.int) ([] : List Int)), ((dT PyData.int) ([] : List Int)))) fun r29 =>
.nx (!decide (r29 = true))))) fun (j25 : Bool) =>
if j25 then (.rt false) else (O.bind (bindR (f_swaps (((dT (dP2 (dT PyData.str) PyData.str)) r8.1), ((dL PyData.int) r9.1), ((dL PyData.int) r10.1))) fun r31 =>
if (r31).isNone then (.nx true) else (bindR (f_law_unlike (r9.1, ys12)) fun r32 =>
bindR (mulR s5.2 (s5.2 - (1 : Int))) fun t33 =>
.nx (!decide (((r32).length : Int) = (t33 / (2 : Int)))))) fun (j30 : Bool) =>
if j30 then (.rt false) else (bindR (f_law_refused (r2.1, r8.1, r9.1)) fun r34 =>
.rt r34))
def f_law (a : (List Int)) : R Bool := fin (m_law a) fun z => z.elim
end Lw

set_option Elab.async false
set_option linter.all false
set_option maxRecDepth 100000
set_option maxHeartbeats 1000000
namespace Lw
open PySem L2 Gv Sw
abbrev Rg := List Str × Str
abbrev rD (r : Rg) : PyData := .tuple [.tuple (r.1.map PyData.str), .str r.2]
abbrev fD (fr : List Rg) : PyData := .tuple (fr.map rD)
theorem fD_eq (fr : List Rg) : (dT (dP2 (dT PyData.str) PyData.str)) fr = fD fr := rfl
def nameOk (s : Str) : Prop := f_is_name (.str s) = .nx true
structure RgOk' (r : Rg) : Prop where
  nm : nameOk r.2
  rd : ∀ s, s ∈ r.1 → nameOk s
  up : r.1.Pairwise fun a b => a.cps.toList < b.cps.toList
  few : r.1.length ≤ 100
structure Frm (fr : List Rg) : Prop where
  len : fr.length ≤ 8
  ok : ∀ r, r ∈ fr → RgOk' r
  nd : (fr.map (·.2)).Nodup
theorem atD_tup {xs : List PyData} {k : Nat} {d : PyData} (h : xs[k]? = some d) : atD (.tuple xs) (k : Int) = .nx d := idx_nat h
theorem fits_ok {r : Rg} (h : RgOk' r) : f_frame_rung_fits (rD r) = .nx true := by
  obtain ⟨b, e, q⟩ := o_val (m := f_frame_rung_fits (rD r)) (N := fun b => b = true) (by
    refine o_fin ?_
    unfold m_frame_rung_fits
    have a0 : atD (rD r) (0 : Int) = .nx (.tuple (r.1.map PyData.str)) := atD_tup (k := 0) rfl
    have a1 : atD (rD r) (1 : Int) = .nx (.str r.2) := atD_tup (k := 1) rfl
    refine o_bind (o_ite (fun z => nomatch z) fun _ => ?_)
    refine o_bindR (o_eq (a := (2 : Int)) rfl ?_)
    refine o_ite (fun z => absurd z (by decide)) fun _ => ?_
    refine o_bindR (o_eq a0 ?_)
    refine o_nx (o_ite (fun z => nomatch z) fun _ => ?_)
    refine o_bindR (o_eq a0 ?_)
    refine o_bindR (o_eq (a := r.1.map PyData.str) rfl ?_)
    refine o_bindR (o_eq a1 ?_)
    have hf := h.few
    refine o_bindR (o_eq (catR_nx (by simp; omega)) ?_)
    refine o_bind (o_for (fun _ _ => True) trivial (fun i s b hb _ => ?_) fun _ _ => ?_)
    · have hm := List.mem_of_getElem? hb
      have hn : f_is_name b = .nx true := by
        rcases List.mem_append.mp hm with hm | hm
        · obtain ⟨s, hs, rfl⟩ := List.mem_map.mp hm
          exact h.rd s hs
        · have : b = .str r.2 := by simpa using hm
          rw [this]
          exact h.nm
      refine o_bindR (o_eq hn ?_)
      exact o_ite (fun z => nomatch z) fun _ => trivial
    · refine o_bindR (o_eq a0 ?_)
      refine o_bindR (o_eq a0 ?_)
      refine o_bindR (o_eq (a := .tuple (cutL (r.1.map PyData.str) (some (1 : Int)) none)) rfl ?_)
      refine o_bindR (o_eq (a := (r.1.map PyData.str).zip (cutL (r.1.map PyData.str) (some (1 : Int)) none)) rfl ?_)
      refine o_bind (o_for (fun _ _ => True) trivial (fun i s b hb _ => ?_) fun _ _ => o_rt rfl)
      rw [List.getElem?_zip_eq_some] at hb
      obtain ⟨h1, h2⟩ := hb
      have hc : cutL (r.1.map PyData.str) (some (1 : Int)) none = (r.1.map PyData.str).drop 1 := by
        unfold cutL
        have e1 : HT.sIx (r.1.map PyData.str).length 0 (some (1 : Int)) = min 1 (r.1.map PyData.str).length := HT.sIx_nat _ _ 1
        have e2 : HT.sIx (r.1.map PyData.str).length (r.1.map PyData.str).length none = (r.1.map PyData.str).length := rfl
        rw [e1, e2]
        cases r.1 with
        | nil => rfl
        | cons a t =>
          rw [show min 1 ((a :: t).map PyData.str).length = 1 by simp]
          exact List.take_of_length_le (by simp)
      rw [hc, List.getElem?_drop] at h2
      rw [List.getElem?_map] at h1 h2
      obtain ⟨x, hx, ex⟩ := Option.map_eq_some_iff.mp h1
      obtain ⟨y, hy, ey⟩ := Option.map_eq_some_iff.mp h2
      refine o_bindR (o_eq (a := y) (by rw [← ey]; rfl) ?_)
      refine o_bindR (o_eq (a := x) (by rw [← ex]; rfl) ?_)
      obtain ⟨l1, g1⟩ := List.getElem?_eq_some_iff.mp hx
      obtain ⟨l2, g2⟩ := List.getElem?_eq_some_iff.mp hy
      have lt := List.pairwise_iff_getElem.mp h.up i (1 + i) l1 l2 (by omega)
      rw [g1, g2] at lt
      refine o_ite (fun z => ?_) fun _ => trivial
      unfold geS at z
      rw [decide_eq_true lt] at z
      cases z)
  rw [e, q]
theorem check_ok {fr : List Rg} (h : Frm fr) : f_check_frame (fD fr) = .nx () := by
  obtain ⟨b, e, q⟩ := o_val (m := f_check_frame (fD fr)) (N := fun _ => True) (by
    refine o_fin ?_
    unfold m_check_frame
    have hl := h.len
    refine o_bindR (o_eq (a := ((fr.map rD).length : Int)) rfl ?_)
    refine o_ite (fun z => absurd (of_decide_eq_true z) (by rw [List.length_map]; omega)) fun _ => ?_
    refine o_lt ?_
    refine o_bindR (o_eq (a := fr.map rD) rfl ?_)
    refine o_bind (o_for (fun k (s : List Str) => s = (fr.take k).map (·.2)) rfl (fun k s b hb hs => ?_) fun _ _ => trivial)
    obtain ⟨_, b2⟩ := enumL_get hb
    rw [List.getElem?_map] at b2
    obtain ⟨r, hr, eb⟩ := Option.map_eq_some_iff.mp b2
    rw [← eb]
    have a1 : atD (rD r) (1 : Int) = .nx (.str r.2) := atD_tup (k := 1) rfl
    subst hs
    obtain ⟨hk, gk⟩ := List.getElem?_eq_some_iff.mp hr
    refine o_bind (o_bindR (o_eq (fits_ok (h.ok r (List.mem_of_getElem? hr))) ?_))
    refine o_ite (fun z => nomatch z) fun _ => ?_
    refine o_bindR (o_eq a1 ?_)
    refine o_bindR (o_eq (a := r.2) rfl ?_)
    refine o_nx (o_ite (fun z => ?_) fun _ => ?_)
    · exfalso
      have hm := of_decide_eq_true z
      obtain ⟨r', h1, h2⟩ := List.mem_map.mp hm
      obtain ⟨j, hj, gj⟩ := List.getElem_of_mem h1
      have hj' : j < k := by simp at hj; omega
      have pw := List.pairwise_iff_getElem.mp h.nd j k (by simp; omega) (by simpa using hk) hj'
      rw [List.getElem_map, List.getElem_map] at pw
      rw [List.getElem_take] at gj
      exact pw (by rw [gj, gk, h2])
    · refine o_bindR (o_eq a1 ?_)
      refine o_bindR (o_eq (a := r.2) rfl ?_)
      refine o_bindR (o_eq (appR_nx (by simp; omega)) ?_)
      refine o_nx ?_
      rw [List.take_add_one, hr, List.map_append]
      rfl)
  exact e
/-! ### touching -/
def nmA (fr : List Rg) (i : Int) : Str := ((fr[i.toNat]?).getD ([], "")).2
def rdA (fr : List Rg) (i : Int) : List Str := ((fr[i.toNat]?).getD ([], "")).1
def tq (fr : List Rg) (q : Int × Int) : Bool := decide (nmA fr q.1 ∈ rdA fr q.2) || decide (nmA fr q.2 ∈ rdA fr q.1)
theorem tq_swap (fr : List Rg) (a b : Int) : tq fr (b, a) = tq fr (a, b) := Bool.or_comm _ _
def touchL (fr : List Rg) : List (Int × Int) := (prs fr.length).filter (tq fr)
theorem rg_at {fr : List Rg} {i : Int} (h0 : 0 ≤ i) (h : i < fr.length) : ∃ r, fr[i.toNat]? = some r ∧ nmA fr i = r.2 ∧ rdA fr i = r.1 ∧ (i.toNat : Int) = i := by
  have hl : i.toNat < fr.length := by omega
  refine ⟨fr[i.toNat], List.getElem?_eq_getElem hl, ?_, ?_, by omega⟩
  · unfold nmA; rw [List.getElem?_eq_getElem hl]; rfl
  · unfold rdA; rw [List.getElem?_eq_getElem hl]; rfl
theorem ltouch_ok {fr : List Rg} {i j : Int} (hi : 0 ≤ i ∧ i < fr.length) (hj : 0 ≤ j ∧ j < fr.length) : f_law_touch (fr, i, j) = .nx (tq fr (i, j)) := by
  obtain ⟨r, h1, h2, h3, h4⟩ := rg_at hi.1 hi.2
  obtain ⟨s, g1, g2, g3, g4⟩ := rg_at hj.1 hj.2
  have e1 : idx fr i = .nx r := by rw [← h4]; exact idx_nat h1
  have e2 : idx fr j = .nx s := by rw [← g4]; exact idx_nat g1
  unfold f_law_touch m_law_touch tq
  simp only [e1, e2, bindR_nx, h2, h3, g2, g3]
  cases decide (r.2 ∈ s.1) <;> rfl
theorem strs_ok : ∀ xs : List Str, strsR (xs.map PyData.str) = .nx xs
  | [] => rfl
  | x :: xs => by
    show bindR (strsR (xs.map PyData.str)) _ = _
    rw [strs_ok xs]
    rfl
theorem in2_ok {β2 γ : Type} {f : β2 → R (Option γ)} (p : β2 → Bool) (g : β2 → γ) : ∀ (ys : List β2) (acc : List γ), (∀ y, y ∈ ys → f y = .nx (if p y then some (g y) else none)) → acc.length + ys.length ≤ 1000000 → in2R f ys acc = .nx (acc ++ (ys.filter p).map g)
  | [], acc, _, _ => by simp [in2R]
  | y :: ys, acc, h, hl => by
    have e := h y List.mem_cons_self
    have hl' : acc.length < 1000000 := by simp at hl; omega
    unfold in2R
    rw [e]
    cases q : p y with
    | true =>
      show (if acc.length < 1000000 then in2R f ys (acc ++ [g y]) else .stuck) = _
      rw [if_pos hl', in2_ok p g ys (acc ++ [g y]) (fun b hb => h b (List.mem_cons_of_mem _ hb)) (by simp at hl ⊢; omega), List.append_assoc, List.filter_cons_of_pos q]
      rfl
    | false =>
      show in2R f ys acc = _
      rw [in2_ok p g ys acc (fun b hb => h b (List.mem_cons_of_mem _ hb)) (by simp at hl ⊢; omega), List.filter_cons_of_neg (by rw [q]; simp)]
theorem lc2_ok {β β2 γ : Type} {w : β → R (List β2)} {f : β → β2 → R (Option γ)} (ws : β → List β2) (p : β → β2 → Bool) (g : β → β2 → γ) (B : Nat) : ∀ (xs : List β) (acc : List γ), (∀ x, x ∈ xs → w x = .nx (ws x) ∧ (ws x).length ≤ B ∧ ∀ y, y ∈ ws x → f x y = .nx (if p x y then some (g x y) else none)) → acc.length + xs.length * B ≤ 1000000 →
    lc2R w f xs acc = .nx (acc ++ xs.flatMap fun x => ((ws x).filter (p x)).map (g x))
  | [], acc, _, _ => by simp [lc2R]
  | x :: xs, acc, h, hl => by
    obtain ⟨h1, h2, h3⟩ := h x List.mem_cons_self
    rw [List.length_cons, Nat.succ_mul] at hl
    unfold lc2R
    rw [h1]
    show (match in2R (f x) (ws x) acc with
      | .nx acc' => lc2R w f xs acc'
      | _ => .stuck) = _
    rw [in2_ok (p x) (g x) (ws x) acc h3 (by omega)]
    show lc2R w f xs _ = _
    have hf := List.length_filter_le (p x) (ws x)
    rw [lc2_ok ws p g B xs _ (fun b hb => h b (List.mem_cons_of_mem _ hb)) (by rw [List.length_append, List.length_map]; omega), List.flatMap_cons, List.append_assoc]
theorem touching_ok {fr : List Rg} (h : Frm fr) : f_touching (fD fr) = .nx (touchL fr) := by
  have hl := h.len
  have at_ : ∀ i : Int, 0 ≤ i → i < fr.length → atD (fD fr) i = .nx (.tuple [.tuple ((rdA fr i).map PyData.str), .str (nmA fr i)]) := fun i h0 h1 => by
    obtain ⟨r, g1, g2, g3, g4⟩ := rg_at h0 h1
    rw [g2, g3, ← g4]
    exact atD_tup (by rw [List.getElem?_map, g1]; rfl)
  unfold f_touching m_touching
  rw [check_ok h]
  simp only [bindR_nx]
  have e1 : lenD (fD fr) = .nx (fr.length : Int) := by show O.nx (((fr.map rD).length : Nat) : Int) = _; rw [List.length_map]
  rw [e1]
  simp only [bindR_nx]
  rw [rngR_nx (by omega)]
  simp only [bindR_nx]
  rw [lc2_ok (fun x => rangeL (x + 1) (fr.length : Int)) (fun x y => tq fr (x, y)) (fun x y => (x, y)) 10 _ _ (fun x hx => ?_) (by rw [rangeL_len]; simp; omega)]
  · show O.nx _ = _
    congr 1
    rw [List.nil_append]
    unfold touchL prs
    rw [List.filter_flatMap]
    congr 1
    funext a
    rw [List.filter_map]
    rfl
  · have hx' := mem_rangeL.mp hx
    refine ⟨rngR_nx (by omega), by rw [rangeL_len]; omega, fun y hy => ?_⟩
    have hy' := mem_rangeL.mp hy
    have ax := at_ x hx'.1 hx'.2
    have ay := at_ y (by omega) hy'.2
    have f1 : ∀ (a b : PyData), atD (.tuple [a, b]) (1 : Int) = .nx b := fun a b => atD_tup (k := 1) rfl
    have f0 : ∀ (a b : PyData), atD (.tuple [a, b]) (0 : Int) = .nx a := fun a b => atD_tup (k := 0) rfl
    have tx : ∀ xs : List Str, textsD (.tuple (xs.map PyData.str)) = .nx xs := fun xs => by show bindR (.nx _) strsR = _; rw [bindR_nx, strs_ok]
    have sx : ∀ s : Str, strD (.str s) = .nx s := fun _ => rfl
    simp only [ax, ay, bindR_nx, f1, f0, tx, sx]
    unfold tq
    cases q1 : decide (nmA fr x ∈ rdA fr y) with
    | true => rfl
    | false => cases decide (nmA fr y ∈ rdA fr x) <;> rfl
end Lw

set_option Elab.async false
set_option linter.all false
set_option maxRecDepth 100000
set_option maxHeartbeats 1000000
namespace Lw
open PySem L2 Gv Sw
/-- an order as data: list or tuple -/
structure OrdD (n : Nat) (d : PyData) (o : List Int) : Prop where
  is : d = .list (o.map PyData.int) ∨ d = .tuple (o.map PyData.int)
  ord : Ord n o
section
variable {n : Nat} {d d' : PyData} {o o' : List Int} {fr : List Rg}
theorem OrdD.items (h : OrdD n d o) : itemsD d = .nx (o.map PyData.int) := by rcases h.is with rfl | rfl <;> rfl
theorem OrdD.lenD (h : OrdD n d o) : Gv.lenD d = .nx (n : Int) := by
  have := h.ord.len
  rcases h.is with rfl | rfl <;> (show O.nx (((o.map PyData.int).length : Nat) : Int) = _; rw [List.length_map, this])
theorem OrdD.seq (h : OrdD n d o) : (isA "list" d || isA "tuple" d) = true := by rcases h.is with rfl | rfl <;> rfl
theorem ints_map : ∀ xs : List Int, intsR (xs.map PyData.int) = .nx xs
  | [] => rfl
  | x :: xs => by
    show bindR (intsR (xs.map PyData.int)) _ = _
    rw [ints_map xs]
    rfl
theorem whole_in (i lo hi : Int) : f_whole_in (.int i, lo, hi) = .nx (decide (lo ≤ i) && decide (i ≤ hi)) := rfl
theorem once_ok (h : OrdD n d o) (hn : n ≤ 1000) : f_each_once (d, (n : Int)) = .nx true := by
  obtain ⟨r, e, q⟩ := o_val (m := f_each_once (d, (n : Int))) (N := fun r => r = true) (by
    refine o_fin ?_
    unfold m_each_once
    rw [h.seq]
    refine o_bind (o_ite (fun z => nomatch z) fun _ => ?_)
    refine o_bindR (o_eq h.lenD ?_)
    refine o_nx (o_ite (fun z => absurd z (by simp)) fun _ => ?_)
    refine o_bindR (o_eq h.items ?_)
    refine o_bind (o_for (fun _ _ => True) trivial (fun i s b hb _ => ?_) fun _ _ => ?_)
    · obtain ⟨x, hx, rfl⟩ := List.mem_map.mp (List.mem_of_getElem? hb)
      obtain ⟨h0, h1⟩ := h.ord.mem.mp hx
      refine o_bindR (o_eq (whole_in _ _ _) ?_)
      refine o_ite (fun z => ?_) fun _ => trivial
      rw [decide_eq_true h0, decide_eq_true (show x ≤ (n : Int) - 1 by omega)] at z
      cases z
    · have e1 : setLenR d = .nx (n : Int) := by
        unfold setLenR
        rw [h.items, bindR_nx, ints_map, bindR_nx]
        have hl := h.ord.len
        have e2 : ((dd o).length : Int) = (n : Int) := by rw [← dd_len h.ord.nodup (fun k => Iff.rfl), hl]
        rw [e2]
        exact gd_true (decide_eq_true (by omega))
      refine o_bindR (o_eq e1 ?_)
      exact o_rt (decide_eq_true rfl))
  rw [e, q]
/-! ### as they stand -/
def dirp (o : List Int) (q : Int × Int) : Int × Int := if bef o q.1 q.2 then q else (q.2, q.1)
def dirs (fr : List Rg) (o : List Int) : List (Int × Int) := (touchL fr).map (dirp o)
def kv (l : List Int) (m : Nat) : List (Int × Int) := (l.zipIdx m).map fun p => (p.1, (p.2 : Int))
theorem kv_cons (x : Int) (l : List Int) (m : Nat) : kv (x :: l) m = (x, (m : Int)) :: kv l (m + 1) := by unfold kv; rw [List.zipIdx_cons, List.map_cons]
theorem dc_ok {f : Int × PyData → R (Int × Int)} (hf : ∀ (i k : Int), f (i, .int k) = .nx (k, i)) : ∀ (l : List Int) (m : Nat) (acc : List (Int × Int)), (∀ k, k ∈ l → ∀ p, p ∈ acc → p.1 ≠ k) → l.Nodup → acc.length + l.length ≤ 1000000 →
    dcR f (((l.map PyData.int).zipIdx m).map fun p => ((p.2 : Int), p.1)) acc = .nx (acc ++ kv l m)
  | [], m, acc, _, _, _ => by simp [dcR, kv]
  | x :: l, m, acc, h, nd, hl => by
    obtain ⟨n1, n2⟩ := List.nodup_cons.mp nd
    rw [List.map_cons, List.zipIdx_cons, List.map_cons]
    unfold dcR
    rw [hf]
    have hl' : acc.length < 1000000 := by simp at hl; omega
    show (if acc.length < 1000000 then dcR f _ (putI acc x (m : Int)) else .stuck) = _
    rw [if_pos hl']
    have ep : putI acc x (m : Int) = acc ++ [(x, (m : Int))] := by
      unfold putI
      rw [if_neg]
      intro z
      obtain ⟨p, hp, e⟩ := List.any_eq_true.mp z
      exact h x List.mem_cons_self p hp (of_decide_eq_true e)
    rw [ep, dc_ok hf l (m + 1) _ (fun k hk p hp => ?_) n2 (by simp at hl ⊢; omega), kv_cons, List.append_assoc]
    · rfl
    · rcases List.mem_append.mp hp with hp | hp
      · exact h k (List.mem_cons_of_mem _ hk) p hp
      · have : p = (x, (m : Int)) := by simpa using hp
        rw [this]
        exact fun e => n1 (by rw [show x = k from e]; exact hk)
theorem get_kv : ∀ {l : List Int} (m : Nat) {k : Int}, k ∈ l → getI (kv l m) k = .nx ((m + rk l k : Nat) : Int)
  | x :: l, m, k, h => by
    rw [kv_cons, rk_cons]
    unfold getI
    rw [List.find?_cons]
    by_cases e : x = k
    · rw [show decide (x = k) = true from decide_eq_true e, if_pos e]
      rfl
    · rw [show decide (x = k) = false from decide_eq_false e, if_neg e]
      have ih := get_kv (m + 1) (l := l) (k := k) (by rcases List.mem_cons.mp h with h | h; exact absurd h.symm e; exact h)
      unfold getI at ih
      rw [ih]
      congr 1
      omega
theorem mem_touchL {q : Int × Int} : q ∈ touchL fr ↔ (0 ≤ q.1 ∧ q.1 < q.2 ∧ q.2 < fr.length) ∧ tq fr q = true := by
  unfold touchL
  rw [List.mem_filter, mem_prs]
theorem directed_ok (h : Frm fr) (ho : OrdD fr.length d o) : f_directed (fD fr, d) = .nx (dirs fr o) := by
  have hl := h.len
  have hlen := ho.ord.len
  unfold f_directed m_directed
  rw [ho.items]
  simp only [bindR_nx]
  have e1 : dcR (fun (b2 : (Int × PyData)) => bindR (intD b2.2) fun t4 => .nx (t4, b2.1)) (enumL (o.map PyData.int)) [] = .nx (kv o 0) := by
    have := dc_ok (f := fun (b2 : (Int × PyData)) => bindR (intD b2.2) fun t4 => .nx (t4, b2.1)) (fun i k => rfl) o 0 [] (fun k _ p hp => nomatch hp) ho.ord.nodup (by simp; omega)
    rw [List.nil_append] at this
    exact this
  rw [e1]
  simp only [bindR_nx]
  rw [touching_ok h]
  simp only [bindR_nx]
  have hq : (touchL fr).length ≤ 64 := by
    have h1 : (prs fr.length).length ≤ 64 := by
      rcases (show fr.length = 0 ∨ fr.length = 1 ∨ fr.length = 2 ∨ fr.length = 3 ∨ fr.length = 4 ∨ fr.length = 5 ∨ fr.length = 6 ∨ fr.length = 7 ∨ fr.length = 8 by omega) with e | e | e | e | e | e | e | e | e <;> rw [e] <;> decide
    exact Nat.le_trans (List.length_filter_le _ _) h1
  rw [lcR_map (dirp o) (touchL fr) [] (fun q hq => ?_) (by simp; omega)]
  · rfl
  · obtain ⟨⟨q1, q2, q3⟩, _⟩ := mem_touchL.mp hq
    have m1 := ho.ord.mem.mpr ⟨q1, by omega⟩
    have m2 := ho.ord.mem.mpr ⟨by omega, q3⟩
    simp only [get_kv 0 m1, get_kv 0 m2, bindR_nx]
    unfold dirp bef
    by_cases c : rk o q.1 < rk o q.2
    · have c' : (((0 + rk o q.1 : Nat)) : Int) < ((0 + rk o q.2 : Nat) : Int) := by omega
      rw [decide_eq_true c, decide_eq_true c']
      rfl
    · have c' : ¬ (((0 + rk o q.1 : Nat)) : Int) < ((0 + rk o q.2 : Nat) : Int) := by omega
      rw [decide_eq_false c, decide_eq_false c']
      rfl
theorem parted_ok (h : Frm fr) (ho : OrdD fr.length d o) (ho' : OrdD fr.length d' o') : ∃ r, f_parted (fD fr, d, d') = .nx r ∧ (r.isNone = true ↔ dirs fr o = dirs fr o') := by
  obtain ⟨r, e, q⟩ := o_val (m := f_parted (fD fr, d, d')) (N := fun r => r.isNone = true ↔ dirs fr o = dirs fr o') (by
    refine o_fin ?_
    unfold m_parted
    refine o_bindR (o_eq (directed_ok h ho) ?_)
    refine o_bindR (o_eq (directed_ok h ho') ?_)
    have hlen : (dirs fr o).length = (dirs fr o').length := by unfold dirs; rw [List.length_map, List.length_map]
    refine o_bind (o_for (fun k _ => (dirs fr o).take k = (dirs fr o').take k) rfl (fun k s b hb hs => ?_) fun s hs => ?_)
    · have hz := List.getElem?_zip_eq_some.mp hb
      refine o_ite (fun z => ?_) fun z => ?_
      · refine o_rt ?_
        constructor
        · intro z2; cases z2
        · intro e2
          exfalso
          rw [e2, hz.2] at hz
          have : b.2 = b.1 := Option.some.inj hz.1
          rw [this] at z
          simp at z
      · have e2 : b.1 = b.2 := by simpa using z
        refine o_nx ?_
        rw [List.take_add_one, List.take_add_one, hs, hz.1, hz.2, e2]
    · refine o_rt ⟨fun _ => ?_, fun _ => rfl⟩
      rw [List.length_zip, hlen, Nat.min_self, List.take_length] at hs
      have : (dirs fr o).take (dirs fr o').length = dirs fr o := by rw [← hlen, List.take_length]
      rw [this] at hs
      exact hs)
  exact ⟨r, e, q⟩
theorem dirs_iff (ho : Ord fr.length o) (ho' : Ord fr.length o') : dirs fr o = dirs fr o' ↔ ∀ q, q ∈ touchL fr → bef o q.1 q.2 = bef o' q.1 q.2 := by
  unfold dirs
  rw [List.map_inj_left]
  refine forall_congr' fun q => forall_congr' fun hq => ?_
  obtain ⟨⟨q1, q2, q3⟩, _⟩ := mem_touchL.mp hq
  unfold dirp
  constructor
  · intro e
    cases c1 : bef o q.1 q.2 <;> cases c2 : bef o' q.1 q.2 <;> rw [c1, c2] at e
    · exfalso
      have := congrArg Prod.fst e
      have : q.2 = q.1 := this
      omega
    · exfalso
      have := congrArg Prod.fst e
      have : q.1 = q.2 := this
      omega
  · intro e
    rw [e]
theorem two_ok (h : Frm fr) (ho : OrdD fr.length d o) (ho' : OrdD fr.length d' o') : f_check_two_orders (fD fr, d, d') = .nx () := by
  have e1 : Gv.lenD (fD fr) = .nx (fr.length : Int) := by show O.nx (((fr.map rD).length : Nat) : Int) = _; rw [List.length_map]
  have hl := h.len
  unfold f_check_two_orders m_check_two_orders
  simp only [e1, bindR_nx, once_ok ho (by omega), once_ok ho' (by omega)]
  rfl
theorem same_ok (h : Frm fr) (ho : OrdD fr.length d o) (ho' : OrdD fr.length d' o') : f_same_for_all (fD fr, d, d') = .nx (decide (dirs fr o = dirs fr o')) := by
  obtain ⟨r, e, q⟩ := parted_ok h ho ho'
  unfold f_same_for_all m_same_for_all
  simp only [check_ok h, bindR_nx, two_ok h ho ho', e]
  show O.nx r.isNone = _
  congr 1
  by_cases c : dirs fr o = dirs fr o'
  · rw [decide_eq_true c, q.mpr c]
  · rw [decide_eq_false c]
    cases z : r.isNone with
    | true => exact absurd (q.mp z) c
    | false => rfl
theorem directions_ok (h : Frm fr) (ho : OrdD fr.length d o) : f_directions (fD fr, d) = .nx (sortP (dirs fr o)) := by
  have e1 : Gv.lenD (fD fr) = .nx (fr.length : Int) := by show O.nx (((fr.map rD).length : Nat) : Int) = _; rw [List.length_map]
  have hl := h.len
  unfold f_directions m_directions
  simp only [check_ok h, bindR_nx, e1, once_ok ho (by omega), directed_ok h ho]
  rfl
/-- alike as sorted lists: alike as they stand -/
theorem sort_dirs (ho : Ord fr.length o) (ho' : Ord fr.length o') : sortP (dirs fr o) = sortP (dirs fr o') ↔ dirs fr o = dirs fr o' := by
  refine ⟨fun e => ?_, fun e => by rw [e]⟩
  have hp : (dirs fr o).Perm (dirs fr o') := (sortP_perm _).symm.trans (by rw [e]; exact sortP_perm _)
  rw [dirs_iff ho ho']
  intro q hq
  obtain ⟨⟨q1, q2, q3⟩, _⟩ := mem_touchL.mp hq
  have hm : dirp o q ∈ dirs fr o' := hp.mem_iff.mp (List.mem_map.mpr ⟨q, hq, rfl⟩)
  obtain ⟨p, hp2, e2⟩ := List.mem_map.mp hm
  obtain ⟨⟨p1, p2, p3⟩, _⟩ := mem_touchL.mp hp2
  unfold dirp at e2
  cases c1 : bef o q.1 q.2 <;> cases c2 : bef o' p.1 p.2 <;> rw [c1, c2] at e2
  · have a : p.2 = q.2 := congrArg Prod.fst e2
    have b : p.1 = q.1 := congrArg Prod.snd e2
    rw [← a, ← b, c2]
  · have a : p.1 = q.2 := congrArg Prod.fst e2
    have b : p.2 = q.1 := congrArg Prod.snd e2
    omega
  · have a : p.2 = q.1 := congrArg Prod.fst e2
    have b : p.1 = q.2 := congrArg Prod.snd e2
    omega
  · have a : p = q := e2
    rw [← a, c2]
end
end Lw

set_option Elab.async false
set_option linter.all false
set_option maxRecDepth 100000
set_option maxHeartbeats 2000000
namespace Lw
open PySem L2 Gv Sw
/-! ### loops over all pairs -/
section
variable {ρ lam γ : Type}
theorem inner_loop {body : List γ → Int → O ρ (List γ) (List γ)} (p : Int → Bool) (g : Int → γ) : ∀ (l : List Int) (s : List γ), (∀ b, b ∈ l → ∀ s : List γ, s.length ≤ 200 → body s b = .nx (if p b then s ++ [g b] else s)) → s.length + l.length ≤ 200 →
    (forO body l s : O ρ lam (List γ)) = .nx (s ++ (l.filter p).map g)
  | [], s, _, _ => by simp [forO]
  | b :: l, s, h, hl => by
    rw [List.length_cons] at hl
    unfold forO
    rw [h b List.mem_cons_self s (by omega)]
    cases q : p b with
    | true =>
      show (forO body l (s ++ [g b]) : O ρ lam (List γ)) = _
      rw [inner_loop p g l _ (fun b hb => h b (List.mem_cons_of_mem _ hb)) (by simp; omega), List.filter_cons_of_pos q, List.append_assoc]
      rfl
    | false =>
      show (forO body l s : O ρ lam (List γ)) = _
      rw [inner_loop p g l _ (fun b hb => h b (List.mem_cons_of_mem _ hb)) (by omega), List.filter_cons_of_neg (by rw [q]; simp)]
theorem outer_loop {body : Int → List γ → Int → O ρ (List γ) (List γ)} (p : Int × Int → Bool) (g : Int × Int → γ) {n : Nat} (hn : n ≤ 8) (hb : ∀ a b, (a, b) ∈ prs n → ∀ s : List γ, s.length ≤ 200 → body a s b = .nx (if p (a, b) then s ++ [g (a, b)] else s)) : ∀ (l : List Int) (s : List γ), (∀ a, a ∈ l → 0 ≤ a ∧ a < n) → s.length + l.length * 10 ≤ 200 →
    (forO (fun s a => bindR (rngR (a + 1) (n : Int)) fun l => (forO (fun s b => body a s b) l s).bind fun s => .nx s) l s : O ρ lam (List γ)) = .nx (s ++ l.flatMap fun a => ((rangeL (a + 1) (n : Int)).filter fun b => p (a, b)).map fun b => g (a, b))
  | [], s, _, _ => by simp [forO]
  | a :: l, s, h, hl => by
    rw [List.length_cons, Nat.succ_mul] at hl
    obtain ⟨h0, h1⟩ := h a List.mem_cons_self
    have hr : (rangeL (a + 1) (n : Int)).length ≤ 8 := by rw [rangeL_len]; omega
    unfold forO
    rw [rngR_nx (by omega), bindR_nx, inner_loop (fun b => p (a, b)) (fun b => g (a, b)) _ s (fun b hb2 s hs => ?_) (by omega)]
    · show (forO _ l (s ++ _) : O ρ lam (List γ)) = _
      have hf := List.length_filter_le (fun b => p (a, b)) (rangeL (a + 1) (n : Int))
      rw [outer_loop p g hn hb l _ (fun b hb => h b (List.mem_cons_of_mem _ hb)) (by rw [List.length_append, List.length_map]; omega), List.flatMap_cons, List.append_assoc]
    · have := mem_rangeL.mp hb2
      exact hb a b (mem_prs.mpr ⟨h0, by show a < b; omega, this.2⟩) s hs
theorem pairs_loop {body : Int → List γ → Int → O ρ (List γ) (List γ)} (p : Int × Int → Bool) (g : Int × Int → γ) {n : Nat} (hn : n ≤ 8) (hb : ∀ a b, (a, b) ∈ prs n → ∀ s : List γ, s.length ≤ 200 → body a s b = .nx (if p (a, b) then s ++ [g (a, b)] else s)) :
    (forO (fun s a => bindR (rngR (a + 1) (n : Int)) fun l => (forO (fun s b => body a s b) l s).bind fun s => .nx s) (rangeL 0 (n : Int)) [] : O ρ lam (List γ)) = .nx (((prs n).filter p).map g) := by
  rw [outer_loop p g hn hb _ [] (fun a ha => mem_rangeL.mp ha) (by rw [rangeL_len]; simp; omega), List.nil_append]
  congr 1
  unfold prs
  rw [List.filter_flatMap, List.map_flatMap]
  congr 1
  funext a
  rw [List.filter_map, List.map_map]
  rfl
end
section
variable {n : Nat} {d d' : PyData} {o o' : List Int} {fr : List Rg}
theorem unlike_ok (ho : Ord n o) (ho' : Ord n o') (hn : n ≤ 8) : f_law_unlike (o, o') = .nx (U n o o') := by
  unfold f_law_unlike m_law_unlike
  simp only [lt_eq, ho.len]
  rw [rngR_nx (by omega)]
  simp only [bindR_nx]
  rw [pairs_loop (un o o') id hn (fun a b hq s hs => ?_)]
  · rw [List.map_id]
    rfl
  · obtain ⟨q1, q2, q3⟩ := mem_prs.mp hq
    have q1' : 0 ≤ a := q1
    have q2' : a < b := q2
    have q3' : b < n := q3
    have ma := ho.mem.mpr ⟨q1', by omega⟩
    have mb := ho.mem.mpr ⟨show 0 ≤ b by omega, q3'⟩
    have ma' := ho'.mem.mpr ⟨q1', by omega⟩
    have mb' := ho'.mem.mpr ⟨show 0 ≤ b by omega, q3'⟩
    simp only [ixR_ok ma, ixR_ok mb, ixR_ok ma', ixR_ok mb', bindR_nx]
    have e1 : ∀ l : List Int, decide ((rk l a : Int) < (rk l b : Int)) = bef l a b := fun l => by unfold bef; rw [decide_eq_decide]; omega
    rw [e1, e1, appR_nx (by omega)]
    unfold un
    cases decide (bef o a b = bef o' a b) <;> rfl
theorem ldirections_ok (hl : fr.length ≤ 8) (ho : Ord fr.length o) : f_law_directions (fr, o) = .nx (sortP (dirs fr o)) := by
  unfold f_law_directions m_law_directions
  simp only [lt_eq]
  rw [rngR_nx (by omega)]
  simp only [bindR_nx]
  rw [pairs_loop (tq fr) (dirp o) hl (fun a b hq s hs => ?_)]
  · rfl
  · obtain ⟨q1, q2, q3⟩ := mem_prs.mp hq
    have q1' : 0 ≤ a := q1
    have q2' : a < b := q2
    have q3' : b < fr.length := q3
    have ma := ho.mem.mpr ⟨q1', by omega⟩
    have mb := ho.mem.mpr ⟨show 0 ≤ b by omega, q3'⟩
    rw [ltouch_ok ⟨q1', by omega⟩ ⟨by omega, q3'⟩]
    simp only [ixR_ok ma, ixR_ok mb, bindR_nx]
    have e1 : ∀ l : List Int, decide ((rk l a : Int) < (rk l b : Int)) = bef l a b := fun l => by unfold bef; rw [decide_eq_decide]; omega
    rw [e1, appR_nx (by omega), appR_nx (by omega)]
    unfold dirp
    cases tq fr (a, b) <;> cases bef o a b <;> rfl
/-! ### swaps of neighbours -/
inductive Run (fr : List Rg) : List Int → List Int → List Int → Prop
  | nil {c : List Int} : Run fr c [] c
  | cons {p s ks e : List Int} {x y : Int} (t : tq fr (x, y) = false) (r : Run fr (p ++ y :: x :: s) ks e) : Run fr (p ++ x :: y :: s) ((p.length : Int) :: ks) e
theorem Run.snoc {c ks c' : List Int} (h : Run fr c ks c') : ∀ {p s : List Int} {x y : Int}, c' = p ++ x :: y :: s → tq fr (x, y) = false → Run fr c (ks ++ [(p.length : Int)]) (p ++ y :: x :: s) := by
  induction h with
  | nil => intro p s x y e t; subst e; exact .cons t .nil
  | cons t0 r ih => intro p s x y e t; exact .cons t0 (ih e t)
theorem setR_nat {α : Type} {xs : List α} {k : Nat} {a : α} (h : k < xs.length) : setR xs (k : Int) a = .nx (xs.set k a) := by
  unfold setR
  rw [ixN_nat h]
theorem split2 {c : List Int} {k : Nat} (h : k + 1 < c.length) : ∃ p x y s, c = p ++ x :: y :: s ∧ p.length = k ∧ p = c.take k := by
  refine ⟨c.take k, c[k], c[k + 1], c.drop (k + 2), ?_, by simp; omega, rfl⟩
  rw [← List.drop_eq_getElem_cons h, ← List.drop_eq_getElem_cons (by omega : k < c.length), List.take_append_drop]
theorem set2 {α : Type} {p s : List α} {x y a b : α} : ((p ++ x :: y :: s).set p.length a).set (p.length + 1) b = p ++ a :: b :: s := by
  rw [List.set_append_right _ _ (Nat.le_refl _), Nat.sub_self, List.set_cons_zero, List.set_append_right _ _ (by omega), Nat.add_sub_cancel_left, List.set_cons_succ, List.set_cons_zero]
theorem U_few (hn : n ≤ 8) : (U n o o').length ≤ 64 := by
  refine Nat.le_trans (List.length_filter_le _ _) ?_
  rcases (show n = 0 ∨ n = 1 ∨ n = 2 ∨ n = 3 ∨ n = 4 ∨ n = 5 ∨ n = 6 ∨ n = 7 ∨ n = 8 by omega) with e | e | e | e | e | e | e | e | e <;> rw [e] <;> decide
theorem swaps_ok (h : Frm fr) (ho : OrdD fr.length d o) (ho' : OrdD fr.length d' o') : ∃ r, f_swaps (fD fr, d, d') = .nx r ∧ (dirs fr o ≠ dirs fr o' → r = none) ∧ (dirs fr o = dirs fr o' → ∃ ks, r = some ks ∧ Run fr o ks o' ∧ ks.length = (U fr.length o o').length) := by
  obtain ⟨r, e, q⟩ := o_val (m := f_swaps (fD fr, d, d')) (N := fun r => (dirs fr o ≠ dirs fr o' → r = none) ∧ (dirs fr o = dirs fr o' → ∃ ks, r = some ks ∧ Run fr o ks o' ∧ ks.length = (U fr.length o o').length)) (by
    have hl := h.len
    have hlo := ho.ord.len
    refine o_fin ?_
    unfold m_swaps
    refine o_bindR (o_eq (check_ok h) ?_)
    refine o_bindR (o_eq (two_ok h ho ho') ?_)
    obtain ⟨r3, e3, q3⟩ := parted_ok h ho ho'
    refine o_bindR (o_eq e3 ?_)
    refine o_ite (fun z => ?_) fun z => ?_
    · have hne : dirs fr o ≠ dirs fr o' := fun e => by rw [q3.mpr e] at z; cases z
      exact o_rt ⟨fun _ => rfl, fun e => absurd e hne⟩
    · have hd : dirs fr o = dirs fr o' := q3.mp (by simpa using z)
      have hb := (dirs_iff ho.ord ho'.ord).mp hd
      refine o_bindR (o_eq ho.items ?_)
      have e7 : lcR (fun (s6 : Unit) (b5 : PyData) => bindR (itemsD d') fun t8 => bindR (intsR t8) fun t9 => bindR (intD b5) fun t10 => bindR (ixR t9 t10) fun t11 => .nx ((), some t11)) (o.map PyData.int) () [] = .nx ((), o.map fun k => (rk o' k : Int)) := by
        rw [lcR_map (fun b => match b with | .int k => (rk o' k : Int) | _ => 0) (o.map PyData.int) [] (fun b hb => ?_) (by simp; omega)]
        · rw [List.nil_append, List.map_map]
          rfl
        · obtain ⟨k, hk, rfl⟩ := List.mem_map.mp hb
          have hm := ho'.ord.mem.mpr (ho.ord.mem.mp hk)
          simp only [ho'.items, bindR_nx, ints_map]
          show bindR (ixR o' k) _ = _
          rw [ixR_ok hm]
          rfl
      refine o_bindR (o_eq e7 ?_)
      refine o_lt (o_lt (o_bind ?_))
      refine o_while (fun s => ∃ (c : List Int) (a : Nat), s.1 = c.map (fun k => (rk o' k : Int)) ∧ s.2.2 = (a : Int) ∧ Ord fr.length c ∧ Run fr o s.2.1 c ∧ s.2.1.length + (U fr.length c o').length = (U fr.length o o').length ∧ (∀ q, q ∈ U fr.length c o' → tq fr q = false) ∧ (c.take (a + 1)).Pairwise (fun x y => rk o' x < rk o' y) ∧ a ≤ fr.length)
        (fun s => 2 * ((U fr.length o o').length - s.2.1.length) + (fr.length - s.2.2.toNat)) (fun s hs => ?_) 100000 _ ⟨o, 0, rfl, rfl, ho.ord, .nil, by simp, fun q hq => ?_, by cases o <;> simp, Nat.zero_le _⟩ (by have := U_few (n := fr.length) (o := o) (o' := o') hl; show 2 * ((U fr.length o o').length - 0) + (fr.length - 0) < 100000; omega)
      · obtain ⟨s1, s2, s3⟩ := s
        obtain ⟨c, a, h1, h2, hc, run, hU, ht, hp, ha⟩ := hs
        replace h1 : s1 = c.map (fun k => (rk o' k : Int)) := h1
        replace h2 : s3 = (a : Int) := h2
        replace run : Run fr o s2 c := run
        replace hU : s2.length + (U fr.length c o').length = (U fr.length o o').length := hU
        subst h1
        subst h2
        have hlc := hc.len
        refine ⟨fun z => ?_, fun z => ?_⟩
        · have z' : ¬ ((a : Int) + 1 < (((c.map fun k => (rk o' k : Int)).length : Nat) : Int)) := of_decide_eq_false z
          rw [List.length_map] at z'
          have et : c.take (a + 1) = c := List.take_of_length_le (by omega)
          rw [et] at hp
          have ec : c = o' := uniq_by (hc.trans ho'.ord.symm) hp (own_rk ho'.ord.nodup)
          subst ec
          rw [U_self] at hU
          exact o_rt ⟨fun hne => absurd hd hne, fun _ => ⟨s2, rfl, run, by simpa using hU⟩⟩
        · have z' : (a : Int) + 1 < (((c.map fun k => (rk o' k : Int)).length : Nat) : Int) := of_decide_eq_true z
          rw [List.length_map] at z'
          obtain ⟨p, x, y, s, ec, hpl, hpt⟩ := split2 (c := c) (k := a) (by omega)
          have cx : c[a]? = some x := by rw [ec, ← hpl]; simp
          have cy : c[a + 1]? = some y := by rw [ec, ← hpl]; simp
          have i1 : idx (c.map fun k => (rk o' k : Int)) (a : Int) = .nx (rk o' x : Int) := idx_nat (by rw [List.getElem?_map, cx]; rfl)
          have i2 : idx (c.map fun k => (rk o' k : Int)) ((a : Int) + 1) = .nx (rk o' y : Int) := idx_nat (k := a + 1) (by rw [List.getElem?_map, cy]; rfl)
          refine o_bindR (o_eq i1 ?_)
          refine o_bindR (o_eq i2 ?_)
          have hxo := ho'.ord.mem.mpr (hc.mem.mp (List.mem_of_getElem? cx))
          have hyo := ho'.ord.mem.mpr (hc.mem.mp (List.mem_of_getElem? cy))
          refine o_ite (fun w => ?_) fun w => ?_
          · have w' : rk o' y < rk o' x := by have : (rk o' y : Int) < (rk o' x : Int) := of_decide_eq_true w; omega
            have hc2 : Ord fr.length (p ++ x :: y :: s) := by rw [← ec]; exact hc
            obtain ⟨u1, u2, qq, u3, u4⟩ := U_swap hc2 ho'.ord w'
            have txy : tq fr (x, y) = false := by
              have := ht qq (by rw [ec]; exact u3)
              rcases u4 with rfl | rfl
              · exact this
              · rw [← tq_swap]; exact this
            have hc3 : Ord fr.length (p ++ y :: x :: s) := (List.Perm.append_left p (.swap x y s)).trans hc2
            refine o_bindR (o_eq i2 ?_)
            refine o_bindR (o_eq i1 ?_)
            refine o_bindR (o_eq (setR_nat (by rw [List.length_map]; omega)) ?_)
            refine o_bindR (o_eq (setR_nat (k := a + 1) (by rw [List.length_set, List.length_map]; omega)) ?_)
            have hs2 : s2.length ≤ 64 := by have := U_few (n := fr.length) (o := o) (o' := o') hl; omega
            refine o_bindR (o_eq (appR_nx (by show s2.length < 1000000; omega)) ?_)
            refine o_lt (o_nx ⟨⟨p ++ y :: x :: s, a - 1, ?_, ?_, hc3, ?_, ?_, fun q hq => ht q (by rw [ec]; exact u2 q hq), ?_, by omega⟩, ?_⟩)
            · show (((c.map fun k => (rk o' k : Int)).set a (rk o' y : Int)).set (a + 1) (rk o' x : Int)) = _
              rw [ec, List.map_append, List.map_cons, List.map_cons, List.map_append, List.map_cons, List.map_cons]
              have el : a = (p.map fun k => (rk o' k : Int)).length := by rw [List.length_map, hpl]
              rw [el]
              exact set2
            · show maxI ((a : Int) - 1) 0 = ((a - 1 : Nat) : Int)
              unfold maxI
              split <;> omega
            · show Run fr o (s2 ++ [(a : Int)]) _
              rw [← hpl]
              exact Run.snoc run ec txy
            · show (s2 ++ [(a : Int)]).length + _ = _
              rw [List.length_append, List.length_singleton]
              rw [ec] at hU
              omega
            · cases a with
              | zero => 
                have : p = [] := List.eq_nil_of_length_eq_zero hpl
                subst this
                simp
              | succ a0 =>
                have e1 : (p ++ y :: x :: s).take (a0 + 1 - 1 + 1) = c.take (a0 + 1) := by
                  rw [show a0 + 1 - 1 + 1 = p.length by omega, List.take_left]
                  exact hpt
                rw [e1]
                have e2 : (c.take (a0 + 1 + 1)).take (a0 + 1) = c.take (a0 + 1) := by rw [List.take_take, Nat.min_eq_left (by omega)]
                rw [← e2]
                exact hp.sublist (List.take_sublist _ _)
            · show 2 * ((U fr.length o o').length - (s2 ++ [(a : Int)]).length) + (fr.length - (maxI ((a : Int) - 1) 0).toNat) < 2 * ((U fr.length o o').length - s2.length) + (fr.length - ((a : Int)).toNat)
              have hU' := hU
              rw [ec] at hU'
              have hm : a ≤ (maxI ((a : Int) - 1) 0).toNat + 1 := by unfold maxI; split <;> omega
              rw [List.length_append, List.length_singleton]
              omega
          · have w' : ¬ (rk o' y : Int) < (rk o' x : Int) := of_decide_eq_false w
            have nexy : x ≠ y := fun e => by
              have nd := hc.nodup
              have pw := List.pairwise_iff_getElem.mp nd a (a + 1) (by omega) (by omega) (by omega)
              have g1 := (List.getElem?_eq_some_iff.mp cx).2
              have g2 := (List.getElem?_eq_some_iff.mp cy).2
              exact pw (by rw [g1, g2, e])
            have lt : rk o' x < rk o' y := by
              have : rk o' x ≠ rk o' y := fun e => nexy (rk_inj hxo hyo e)
              omega
            refine o_lt (o_nx ⟨⟨c, a + 1, rfl, rfl, hc, run, hU, ht, ?_, by omega⟩, ?_⟩)
            · rw [List.take_add_one, cy]
              refine List.pairwise_append.mpr ⟨hp, by simp, fun b hb e he => ?_⟩
              have ee : e = y := by simpa using he
              subst ee
              rw [List.take_add_one, cx] at hb hp
              rcases List.mem_append.mp hb with hb | hb
              · exact Nat.lt_trans ((List.pairwise_append.mp hp).2.2 b hb x (by simp)) lt
              · have : b = x := by simpa using hb
                rw [this]
                exact lt
            · show 2 * ((U fr.length o o').length - s2.length) + (fr.length - ((a : Int) + 1).toNat) < 2 * ((U fr.length o o').length - s2.length) + (fr.length - ((a : Int)).toNat)
              omega
      · obtain ⟨hq1, hq2⟩ := List.mem_filter.mp hq
        cases ht : tq fr q with
        | false => rfl
        | true =>
          have := hb q (List.mem_filter.mpr ⟨hq1, ht⟩)
          unfold un at hq2
          rw [this] at hq2
          simp at hq2)
  exact ⟨r, e, q⟩
end
end Lw

set_option Elab.async false
set_option linter.all false
set_option maxRecDepth 100000
set_option maxHeartbeats 1000000
namespace Lw
open PySem L2 Gv Sw
theorem lcR_filter {σ γ δ : Type} {s : σ} {f : σ → γ → R (σ × Option δ)} (p : γ → Bool) (g : γ → δ) : ∀ (xs : List γ) (acc : List δ), (∀ b, b ∈ xs → f s b = .nx (s, if p b then some (g b) else none)) → acc.length + xs.length ≤ 1000000 → lcR f xs s acc = .nx (s, acc ++ (xs.filter p).map g)
  | [], acc, _, _ => by rw [List.filter_nil, List.map_nil, List.append_nil]; rfl
  | x :: xs, acc, h, hl => by
    have e := h x List.mem_cons_self
    have hl' : acc.length < 1000000 := by simp at hl; omega
    unfold lcR
    rw [e]
    cases q : p x with
    | true =>
      show (if acc.length < 1000000 then lcR f xs s (acc ++ [g x]) else .stuck) = _
      rw [if_pos hl', lcR_filter p g xs (acc ++ [g x]) (fun b hb => h b (List.mem_cons_of_mem _ hb)) (by simp at hl ⊢; omega), List.append_assoc, List.filter_cons_of_pos q]
      rfl
    | false =>
      show lcR f xs s acc = _
      rw [lcR_filter p g xs acc (fun b hb => h b (List.mem_cons_of_mem _ hb)) (by simp at hl ⊢; omega), List.filter_cons_of_neg (by rw [q]; simp)]
section
variable {n : Nat} {o o' : List Int} {fr : List Rg}
theorem dirs_U (ho : Ord fr.length o) (ho' : Ord fr.length o') : dirs fr o = dirs fr o' ↔ (U fr.length o o').filter (tq fr) = [] := by
  rw [dirs_iff ho ho', List.filter_eq_nil_iff]
  constructor
  · intro h q hq ht
    obtain ⟨h1, h2⟩ := List.mem_filter.mp hq
    have := h q (List.mem_filter.mpr ⟨h1, ht⟩)
    unfold un at h2
    rw [this] at h2
    simp at h2
  · intro h q hq
    obtain ⟨h1, h2⟩ := List.mem_filter.mp hq
    apply Classical.byContradiction
    intro hne
    refine h q (List.mem_filter.mpr ⟨h1, ?_⟩) h2
    unfold un
    rw [decide_eq_false hne]
    rfl
theorem right_ok (h : Frm fr) (ho : Ord fr.length o) (ho' : Ord fr.length o') : f_law_swaps_right (fr, o, o') = .nx true := by
  have hl := h.len
  have hU := U_few (n := fr.length) (o := o) (o' := o') hl
  obtain ⟨r1, e1, n1, n2⟩ := swaps_ok (d := .list (o.map PyData.int)) (d' := .tuple (o'.map PyData.int)) h ⟨.inl rfl, ho⟩ ⟨.inr rfl, ho'⟩
  obtain ⟨r, e, q⟩ := o_val (m := f_law_swaps_right (fr, o, o')) (N := fun r => r = true) (by
    refine o_fin ?_
    unfold m_law_swaps_right
    refine o_bindR (o_eq e1 ?_)
    refine o_bindR (o_eq (unlike_ok ho ho' hl) ?_)
    refine o_bindR (o_eq (lcR_filter (tq fr) id (U fr.length o o') [] (fun b hb => ?_) (by simp; omega)) ?_)
    · obtain ⟨q1, q2, q3⟩ := mem_prs.mp (List.mem_filter.mp hb).1
      show bindR (f_law_touch (fr, b.1, b.2)) _ = _
      rw [ltouch_ok ⟨q1, by omega⟩ ⟨by omega, q3⟩, bindR_nx]
      cases tq fr (b.1, b.2) <;> rfl
    rw [List.nil_append, List.map_id]
    refine o_ite (fun z => ?_) fun z => ?_
    · have z' : (0 : Int) < (((U fr.length o o').filter (tq fr)).length : Int) := of_decide_eq_true z
      have hne : dirs fr o ≠ dirs fr o' := fun e => by
        rw [(dirs_U ho ho').mp e] at z'
        simp at z'
      rw [n1 hne]
      exact o_rt rfl
    · have z' : ¬ (0 : Int) < (((U fr.length o o').filter (tq fr)).length : Int) := of_decide_eq_false z
      have he : (U fr.length o o').filter (tq fr) = [] := List.eq_nil_of_length_eq_zero (by omega)
      obtain ⟨ks, rfl, run, hk⟩ := n2 ((dirs_U ho ho').mpr he)
      refine o_bind (o_ite (fun z => nomatch z) fun _ => ?_)
      refine o_bindR (o_eq (a := ks) rfl ?_)
      refine o_nx (o_ite (fun z => absurd z (by rw [hk]; simp)) fun _ => ?_)
      refine o_bindR (o_eq (a := ks) rfl ?_)
      refine o_bind (o_for (fun k (s : List Int) => Run fr s (ks.drop k) o' ∧ Ord fr.length s) ⟨run, ho⟩ (fun k s b hb hs => ?_) fun s hs => ?_)
      · obtain ⟨run, hs⟩ := hs
        obtain ⟨hk1, hk2⟩ := List.getElem?_eq_some_iff.mp hb
        rw [List.drop_eq_getElem_cons hk1, hk2] at run
        have hlen := hs.len
        cases run with
        | @cons p s' ks' e' x y t rn =>
          have hx := hs.mem.mp (show x ∈ p ++ x :: y :: s' by simp)
          have hy := hs.mem.mp (show y ∈ p ++ x :: y :: s' by simp)
          have hs2 : Ord fr.length (p ++ y :: x :: s') := (List.Perm.append_left p (.swap x y s')).trans hs
          have i1 : idx (p ++ x :: y :: s') (p.length : Int) = .nx x := idx_nat (by simp)
          have i2 : idx (p ++ x :: y :: s') ((p.length : Int) + 1) = .nx y := idx_nat (k := p.length + 1) (by simp)
          refine o_bind ?_
          refine o_bindR (o_eq (a := true) rfl ?_)
          refine o_ite (fun z => nomatch z) fun _ => ?_
          refine o_ite (fun z => absurd (of_decide_eq_true z) (by omega)) fun _ => ?_
          refine o_ite (fun z => absurd (of_decide_eq_true z) (by simp; omega)) fun _ => ?_
          refine o_bindR (o_eq i1 ?_)
          refine o_bindR (o_eq i2 ?_)
          refine o_bindR (o_eq (ltouch_ok hx hy) ?_)
          refine o_nx (o_ite (fun z => by rw [t] at z; cases z) fun _ => ?_)
          refine o_bindR (o_eq i2 ?_)
          refine o_bindR (o_eq i1 ?_)
          refine o_bindR (o_eq (setR_nat (by simp)) ?_)
          refine o_bindR (o_eq (setR_nat (k := p.length + 1) (by simp)) ?_)
          refine o_nx ?_
          rw [set2]
          exact ⟨rn, hs2⟩
      · obtain ⟨run, _⟩ := hs
        rw [List.drop_length] at run
        cases run
        exact o_rt (decide_eq_true rfl))
  rw [e, q]
end
end Lw

set_option Elab.async false
set_option linter.all false
set_option maxRecDepth 100000
set_option maxHeartbeats 1000000
namespace Lw
open PySem L2 Gv Sw
/-! ### numbers and draws -/
def Nn (l : List Int) : Prop := ∀ x, x ∈ l → 0 ≤ x
theorem Nn.app {l : List Int} {x : Int} (h : Nn l) (hx : 0 ≤ x) : Nn (l ++ [x]) := fun y hy => by
  rcases List.mem_append.mp hy with hy | hy
  · exact h y hy
  · have : y = x := by simpa using hy
    omega
theorem numbers_ok {ns : List Int} (hl : ns.length ≤ 63) : ∃ nums, f_law_numbers ns = .nx nums ∧ Nn nums := by
  refine o_val ?_
  refine o_fin ?_
  unfold m_law_numbers
  refine o_lt ?_
  refine o_bindR (o_eq (rngR_nx (by unfold minI; split <;> omega)) ?_)
  refine o_bind ?_
  refine o_for (fun k (s : List Int) => Nn s ∧ s.length ≤ 45 * k) ⟨fun x hx => (nomatch hx), by simp⟩ (fun k s b hb hs => ?_) fun s hs => ?_
  · have hk : k < 63 ∧ b = (k : Int) ∧ k < ns.length := by
      have e := rangeL_get hb
      have l := (List.getElem?_eq_some_iff.mp hb).1
      rw [rangeL_len] at l
      unfold minI at l
      split at l <;> omega
    obtain ⟨h63, rfl, hkl⟩ := hk
    obtain ⟨hs1, hs2⟩ := hs
    refine o_bindR (o_eq (idx_nat (List.getElem?_eq_getElem hkl)) ?_)
    refine o_lt ?_
    refine o_bind (N' := _) ?_
    have main : ∀ cell turned : Int, 0 ≤ cell → 0 ≤ turned → Out
        (if (decide (((10 : Int) ^ ((18 : Int)).toNat) ≤ cell)) then (bindR (rngR 0 (45 : Int)) fun l10 =>
(forO (fun (s11 : ((List Int) × Int)) (b12 : Int) =>
if (decide ((0 : Int) < s11.2)) then (bindR (appR s11.1 (s11.2 % (60 : Int))) fun ys13 =>
lt (s11.2 / (60 : Int)) fun (cell_14 : Int) =>
.nx (ys13, cell_14)) else (.nx (s11.1, s11.2))) l10 (s, cell)).bind fun (s11 : ((List Int) × Int)) =>
.nx s11.1) else (lt (((((cell * (16807 : Int)) + ((k : Int) * (7919 : Int))) + (turned * (104729 : Int))) + (11 : Int)) % (2147483629 : Int)) fun (seed_15 : Int) =>
bindR (rngR 0 (7 : Int)) fun l16 =>
(forO (fun (s17 : ((List Int) × Int)) (b18 : Int) =>
bindR (mulR (s17.2 / (1000 : Int)) b18) fun t19 =>
lt ((((s17.2 * (39373 : Int)) + t19) + (7919 : Int)) % (2147483629 : Int)) fun (seed_20 : Int) =>
bindR (appR s17.1 ((seed_20 / (7 : Int)) % (55440 : Int))) fun ys21 =>
.nx (ys21, seed_20)) l16 (s, seed_15)).bind fun (s17 : ((List Int) × Int)) =>
.nx s17.1) : O (List Int) (List Int) (List Int)) (fun s' => Nn s' ∧ s'.length ≤ 45 * (k + 1)) (fun r => Nn r) (fun _ => False) (fun _ => False) (fun _ => False) := by
      intro cell turned hc ht
      refine o_ite (fun _ => ?_) fun _ => ?_
      · refine o_bindR (o_eq (rngR_nx (by omega)) ?_)
        refine o_bind ?_
        refine o_for (fun n (s' : List Int × Int) => Nn s'.1 ∧ s'.1.length ≤ 45 * k + n ∧ 0 ≤ s'.2) ⟨hs1, by simpa using hs2, hc⟩ (fun n s' b hb h => ?_) fun s' h => ?_
        · obtain ⟨h1, h2, h3⟩ := h
          have hn : n < 45 := by
            have l := (List.getElem?_eq_some_iff.mp hb).1
            rw [rangeL_len] at l
            omega
          refine o_ite (fun _ => ?_) fun _ => ?_
          · rw [appR_nx (by omega)]
            refine o_bindR (o_eq rfl ?_)
            exact ⟨h1.app (Int.emod_nonneg _ (by omega)), by simp; omega, Int.ediv_nonneg h3 (by omega)⟩
          · exact ⟨h1, (show s'.1.length ≤ 45 * k + (n + 1) by omega), h3⟩
        · rw [rangeL_len] at h
          exact ⟨h.1, by have := h.2.1; omega⟩
      · refine o_lt ?_
        refine o_bindR (o_eq (rngR_nx (by omega)) ?_)
        refine o_bind ?_
        refine o_for (fun n (s' : List Int × Int) => Nn s'.1 ∧ s'.1.length ≤ 45 * k + n ∧ 0 ≤ s'.2 ∧ s'.2 < 2147483629) ⟨hs1, by simpa using hs2, Int.emod_nonneg _ (by omega), Int.emod_lt_of_pos _ (by omega)⟩ (fun n s' b hb h => ?_) fun s' h => ?_
        · obtain ⟨h1, h2, h3, h4⟩ := h
          have hb2 := mem_rangeL.mp (List.mem_of_getElem? hb)
          have hn : n < 7 := by
            have l := (List.getElem?_eq_some_iff.mp hb).1
            rw [rangeL_len] at l
            omega
          rw [mulR_nx (.inr (by omega))]
          refine o_bindR (o_eq rfl ?_)
          refine o_lt ?_
          rw [appR_nx (by omega)]
          refine o_bindR (o_eq rfl ?_)
          exact ⟨h1.app (Int.emod_nonneg _ (by omega)), by simp; omega, Int.emod_nonneg _ (by omega), Int.emod_lt_of_pos _ (by omega)⟩
        · rw [rangeL_len] at h
          exact ⟨h.1, by have := h.2.1; omega⟩
    refine o_ite (fun z => ?_) fun z => ?_
    · have z' : ns[k] < 0 := of_decide_eq_true z
      refine o_lt (o_lt (o_nx ?_))
      exact (main (0 - ns[k]) 1 (by omega) (by omega)).imp (fun _ q => q) (fun _ q => q) (fun _ q => q.elim) (fun _ q => q.elim) (fun _ q => q)
    · have z' : ¬ ns[k] < 0 := of_decide_eq_false z
      exact (main ns[k] 0 (by omega) (by omega)).imp (fun _ q => q) (fun _ q => q) (fun _ q => q.elim) (fun _ q => q.elim) (fun _ q => q)
  · refine o_lt (o_rt ?_)
    intro x hx
    exact hs.1 x (List.mem_reverse.mp hx)
theorem draw_ok {nums : List Int} {m : Int} (h : Nn nums) (hm : 0 < m) : OutR (f_law_draw (nums, m)) (fun r => 0 ≤ r.1 ∧ r.1 < m ∧ Nn r.2) (fun _ => False) := by
  refine o_fin ?_
  unfold m_law_draw
  refine o_ite (fun _ => ⟨Int.le_refl _, hm, h⟩) fun z => ?_
  have z' : ¬ (nums.length : Int) = 0 := of_decide_eq_false z
  have hl : nums.length - 1 < nums.length := by omega
  have e : nums[nums.length - 1]? = some nums[nums.length - 1] := List.getElem?_eq_getElem hl
  have ep : popR nums = .nx (nums[nums.length - 1], nums.dropLast) := by unfold popR; rw [e]
  refine o_bindR (o_eq ep ?_)
  refine o_bindR (o_eq (modR_nx hm) ?_)
  exact ⟨Int.emod_nonneg _ (by omega), Int.emod_lt_of_pos _ hm, fun x hx => h x ((List.dropLast_sublist _).subset hx)⟩
end Lw

set_option Elab.async false
set_option linter.all false
set_option maxRecDepth 100000
set_option maxHeartbeats 2000000
namespace Lw
open PySem L2 Gv Sw
def lt10 : List Nat := [120, 97, 98, 107, 113, 109, 116, 122, 103, 119]
def isNm (s : Str) : Bool := match f_is_name (.str s) with
  | .nx b => b
  | _ => false
theorem isNm_ok {s : Str} (h : isNm s = true) : nameOk s := by
  unfold isNm at h
  unfold nameOk
  split at h
  · rename_i b e; rw [e, h]
  · cases h
theorem nm1 : (lt10.all fun a => (List.range 9).all fun k => isNm ⟨#[a, 48 + k]⟩) = true := by decide +kernel
theorem nm2 : (lt10.all fun a => lt10.all fun b => (List.range 9).all fun k => isNm ⟨#[a, 46, b, 48 + k]⟩) = true := by decide +kernel
theorem nm3 : (lt10.all fun a => lt10.all fun b => (List.range 9).all fun k => isNm ⟨#[a, b, 48 + k]⟩) = true := by decide +kernel
theorem ch_ok : ∀ i : Int, 0 ≤ i → i < 10 → ∃ a, a ∈ lt10 ∧ chR "xabkqmtzgw" i = .nx ⟨#[a]⟩ := fun i h0 hi => by
  rcases (show i = 0 ∨ i = 1 ∨ i = 2 ∨ i = 3 ∨ i = 4 ∨ i = 5 ∨ i = 6 ∨ i = 7 ∨ i = 8 ∨ i = 9 by omega) with rfl | rfl | rfl | rfl | rfl | rfl | rfl | rfl | rfl | rfl
  · exact ⟨120, by decide, rfl⟩
  · exact ⟨97, by decide, rfl⟩
  · exact ⟨98, by decide, rfl⟩
  · exact ⟨107, by decide, rfl⟩
  · exact ⟨113, by decide, rfl⟩
  · exact ⟨109, by decide, rfl⟩
  · exact ⟨116, by decide, rfl⟩
  · exact ⟨122, by decide, rfl⟩
  · exact ⟨103, by decide, rfl⟩
  · exact ⟨119, by decide, rfl⟩
theorem str_ok : ∀ i : Nat, i < 9 → strR (i : Int) = .nx ⟨#[48 + i]⟩ := fun i hi => by
  rcases (show i = 0 ∨ i = 1 ∨ i = 2 ∨ i = 3 ∨ i = 4 ∨ i = 5 ∨ i = 6 ∨ i = 7 ∨ i = 8 by omega) with rfl | rfl | rfl | rfl | rfl | rfl | rfl | rfl | rfl <;> rfl
theorem add_ok {x y : Array Nat} (h : x.size + y.size ≤ 1000000) : addS ⟨x⟩ ⟨y⟩ = .nx ⟨x ++ y⟩ := gd_true (decide_eq_true h)
/-- a name of the pool -/
def PN (k : Nat) (s : Str) : Prop := nameOk s ∧ s.cps.back? = some (48 + k)
theorem pn1 {a k : Nat} (ha : a ∈ lt10) (hk : k < 9) : PN k ⟨#[a] ++ #[48 + k]⟩ := ⟨isNm_ok (List.all_eq_true.mp (List.all_eq_true.mp nm1 a ha) k (List.mem_range.mpr hk)), rfl⟩
theorem pn2 {a b k : Nat} (ha : a ∈ lt10) (hb : b ∈ lt10) (hk : k < 9) : PN k ⟨#[a, 46, b] ++ #[48 + k]⟩ := ⟨isNm_ok (List.all_eq_true.mp (List.all_eq_true.mp (List.all_eq_true.mp nm2 a ha) b hb) k (List.mem_range.mpr hk)), rfl⟩
theorem pn3 {a b k : Nat} (ha : a ∈ lt10) (hb : b ∈ lt10) (hk : k < 9) : PN k ⟨#[a, b] ++ #[48 + k]⟩ := ⟨isNm_ok (List.all_eq_true.mp (List.all_eq_true.mp (List.all_eq_true.mp nm3 a ha) b hb) k (List.mem_range.mpr hk)), rfl⟩
structure Pool (p : List Str) : Prop where
  pn : ∀ k s, p[k]? = some s → PN k s
theorem Pool.nd {p : List Str} (h : Pool p) : p.Nodup := by
  refine List.pairwise_iff_getElem.mpr fun i j hi hj hij e => ?_
  have a := (h.pn i _ (List.getElem?_eq_getElem hi)).2
  have b := (h.pn j _ (List.getElem?_eq_getElem hj)).2
  rw [e, b] at a
  have := Option.some.inj a
  omega
theorem pool_ok {nums : List Int} (hn : Nn nums) : OutR (f_law_pool (nums, 9)) (fun r => Pool r.1 ∧ r.1.length = 9 ∧ Nn r.2) (fun _ => False) := by
  refine o_fin ?_
  unfold m_law_pool
  refine o_lt (o_lt ?_)
  refine o_bindR (o_eq (rngR_nx (by omega)) ?_)
  refine o_bind (o_for (fun k (s : List Int × List Str) => Nn s.1 ∧ Pool s.2 ∧ s.2.length = k) ⟨hn, ⟨fun k s h => by simp at h⟩, rfl⟩ (fun k s b hb hs => ?_) fun s hs => ?_)
  · obtain ⟨ns, pl⟩ := s
    obtain ⟨h1, h2, h3⟩ := hs
    replace h1 : Nn ns := h1
    replace h2 : Pool pl := h2
    replace h3 : pl.length = k := h3
    obtain ⟨eb, hk⟩ := rangeL_get0 (n := 9) hb
    subst eb
    refine o_bindR ((draw_ok h1 (by omega)).imp (fun r6 q => ?_) fun _ q => q)
    obtain ⟨p6, n6⟩ := r6
    obtain ⟨a1, a2, a3⟩ := q
    replace a3 : Nn n6 := a3
    obtain ⟨a, ha, ea⟩ := ch_ok p6 a1 a2
    refine o_bindR (o_eq ea ?_)
    refine o_bindR ((draw_ok a3 (by omega)).imp (fun r8 q => ?_) fun _ q => q)
    obtain ⟨p8, n8⟩ := r8
    obtain ⟨b1, b2, b3⟩ := q
    replace b3 : Nn n8 := b3
    have last : ∀ (ns' : List Int) (x : Array Nat), Nn ns' → x.size ≤ 10 → PN k ⟨x ++ #[48 + k]⟩ → Out (bindR (strR (k : Int)) fun t18 => bindR (addS ⟨x⟩ t18) fun t19 => bindR (appR pl t19) fun ys20 => (.nx (ns', ys20) : O (List Str × List Int) (List Int × List Str) (List Int × List Str)))
        (fun s => Nn s.1 ∧ Pool s.2 ∧ s.2.length = k + 1) (fun _ => False) (fun _ => False) (fun _ => False) (fun _ => False) := fun ns' x hn' hx hp => by
      refine o_bindR (o_eq (str_ok k hk) ?_)
      refine o_bindR (o_eq (add_ok (by show x.size + 1 ≤ 1000000; omega)) ?_)
      refine o_bindR (o_eq (appR_nx (by omega)) ?_)
      refine o_nx ⟨hn', ⟨fun j s hj => ?_⟩, by simp [h3]⟩
      replace hj : (pl ++ [(⟨x ++ #[48 + k]⟩ : Str)])[j]? = some s := hj
      rw [List.getElem?_append] at hj
      by_cases c : j < pl.length
      · rw [if_pos c] at hj
        exact h2.pn j s hj
      · rw [if_neg c] at hj
        have hj2 : j - pl.length = 0 := by
          have := (List.getElem?_eq_some_iff.mp hj).1
          simp at this
          omega
        rw [hj2] at hj
        have es : s = ⟨x ++ #[48 + k]⟩ := (Option.some.inj hj).symm
        have ej : j = k := by omega
        rw [es, ej]
        exact hp
    by_cases c5 : p8 = 5
    · subst c5
      refine o_bind (o_ite (fun _ => ?_) fun z => absurd z (by simp))
      refine o_bindR (o_eq (add_ok (by show 1 + 1 ≤ 1000000; omega)) ?_)
      refine o_bindR ((draw_ok b3 (by omega)).imp (fun r11 q => ?_) fun _ q => q)
      obtain ⟨p11, n11⟩ := r11
      obtain ⟨c1, c2, c3⟩ := q
      replace c3 : Nn n11 := c3
      obtain ⟨b, hb', eb'⟩ := ch_ok p11 c1 c2
      refine o_bindR (o_eq eb' ?_)
      refine o_bindR (o_eq (add_ok (by show 2 + 1 ≤ 1000000; omega)) ?_)
      refine o_nx (o_bind (o_ite (fun z => absurd z (by simp)) fun _ => ?_))
      refine o_nx ?_
      exact (last n11 #[a, 46, b] c3 (by show 3 ≤ 10; omega) (pn2 ha hb' hk)).imp (fun _ q => q) (fun _ q => q.elim) (fun _ q => q.elim) (fun _ q => q.elim) fun _ q => q
    · refine o_bind (o_ite (fun z => absurd (of_decide_eq_true z) c5) fun _ => ?_)
      refine o_nx ?_
      by_cases c4 : p8 = 4
      · subst c4
        refine o_bind (o_ite (fun _ => ?_) fun z => absurd z (by simp))
        refine o_bindR ((draw_ok b3 (by omega)).imp (fun r11 q => ?_) fun _ q => q)
        obtain ⟨p11, n11⟩ := r11
        obtain ⟨c1, c2, c3⟩ := q
        replace c3 : Nn n11 := c3
        obtain ⟨b, hb', eb'⟩ := ch_ok p11 c1 c2
        refine o_bindR (o_eq eb' ?_)
        refine o_bindR (o_eq (add_ok (by show 1 + 1 ≤ 1000000; omega)) ?_)
        refine o_nx ?_
        exact (last n11 #[a, b] c3 (by show 2 ≤ 10; omega) (pn3 ha hb' hk)).imp (fun _ q => q) (fun _ q => q.elim) (fun _ q => q.elim) (fun _ q => q.elim) fun _ q => q
      · refine o_bind (o_ite (fun z => absurd (of_decide_eq_true z) c4) fun _ => ?_)
        refine o_nx ?_
        exact (last n8 #[a] b3 (by show 1 ≤ 10; omega) (pn1 ha hk)).imp (fun _ q => q) (fun _ q => q.elim) (fun _ q => q.elim) (fun _ q => q.elim) fun _ q => q
  · obtain ⟨h1, h2, h3⟩ := hs
    rw [rangeL_len] at h3
    exact o_rt ⟨h2, h3, h1⟩
/-! ### frames drawn -/
theorem lcR_sub {f : List Int → Str → R (List Int × Option Str)} (hf : ∀ s b, Nn s → OutR (f s b) (fun r => Nn r.1 ∧ (r.2 = none ∨ r.2 = some b)) (fun _ => False)) : ∀ (xs : List Str) (s : List Int) (acc : List Str), Nn s → acc.length + xs.length ≤ 1000000 → OutR (lcR f xs s acc) (fun r => Nn r.1 ∧ ∃ zs, zs.Sublist xs ∧ r.2 = acc ++ zs) (fun _ => False)
  | [], s, acc, h, _ => ⟨h, [], .slnil, by simp⟩
  | x :: xs, s, acc, h, hl => by
    rw [List.length_cons] at hl
    obtain ⟨r, e, n1, n2⟩ := o_val (hf s x h)
    obtain ⟨s', o⟩ := r
    unfold lcR
    rw [e]
    rcases n2 with n2 | n2
    · replace n2 : o = none := n2
      subst n2
      exact (lcR_sub hf xs s' acc n1 (by omega)).imp (fun r q => ⟨q.1, by obtain ⟨zs, a, b⟩ := q.2; exact ⟨zs, a.cons _, b⟩⟩) fun _ q => q
    · replace n2 : o = some x := n2
      subst n2
      show OutR (if acc.length < 1000000 then lcR f xs s' (acc ++ [x]) else .stuck) _ _
      rw [if_pos (by omega)]
      exact (lcR_sub hf xs s' (acc ++ [x]) n1 (by simp; omega)).imp (fun r q => ⟨q.1, by obtain ⟨zs, a, b⟩ := q.2; exact ⟨x :: zs, a.cons_cons _, by rw [b, List.append_assoc]; rfl⟩⟩) fun _ q => q
theorem frame_ok {nums : List Int} {pool : List Str} {n : Nat} (hn : Nn nums) (hp : Pool pool) (h9 : pool.length = 9) (h8 : n ≤ 8) : OutR (f_law_frame (nums, pool, (n : Int))) (fun r => Frm r.1 ∧ r.1.length = n ∧ (∀ (k : Nat) (r' : Rg), r.1[k]? = some r' → pool[k]? = some r'.2) ∧ Nn r.2) (fun _ => False) := by
  refine o_fin ?_
  unfold m_law_frame
  refine o_bindR ((draw_ok hn (by omega)).imp (fun r1 q => ?_) fun _ q => q)
  obtain ⟨p1, n1⟩ := r1
  obtain ⟨a1, a2, a3⟩ := q
  replace a3 : Nn n1 := a3
  have hix : ∃ t, idx [(1 : Int), 2, 4, 6] p1 = .nx t := by
    rcases (show p1 = 0 ∨ p1 = 1 ∨ p1 = 2 ∨ p1 = 3 by have : 0 ≤ p1 := a1; have : p1 < 4 := a2; omega) with rfl | rfl | rfl | rfl <;> exact ⟨_, rfl⟩
  obtain ⟨t2, e2⟩ := hix
  refine o_bindR (o_eq e2 ?_)
  refine o_lt ?_
  refine o_bindR (o_eq (rngR_nx (by dsimp only; omega)) ?_)
  refine o_bind (o_for (fun k (s : List Int × List Rg) => Nn s.1 ∧ s.2.length = k ∧ (∀ r, r ∈ s.2 → RgOk' r) ∧ ∀ (j : Nat) (r' : Rg), s.2[j]? = some r' → pool[j]? = some r'.2) ⟨a3, rfl, fun _ h => (nomatch h), fun _ _ h => by simp at h⟩ (fun k s b hb hs => ?_) fun s hs => ?_)
  · obtain ⟨ns, fr⟩ := s
    obtain ⟨h1, h2, h3, h4⟩ := hs
    replace h1 : Nn ns := h1
    replace h2 : fr.length = k := h2
    replace h3 : ∀ r, r ∈ fr → RgOk' r := h3
    replace h4 : ∀ (j : Nat) (r' : Rg), fr[j]? = some r' → pool[j]? = some r'.2 := h4
    obtain ⟨eb, hk⟩ := rangeL_get0 (n := n) hb
    subst eb
    have hcl : (cutL pool none (some ((n : Int) + 1))).Sublist pool := by
      unfold cutL
      exact (List.take_sublist _ _).trans (List.drop_sublist _ _)
    refine o_bindR ((lcR_sub (fun s b hs => ?_) _ ns [] h1 (by have := hcl.length_le; simp; omega)).imp (fun r9 q => ?_) fun _ q => q)
    · refine Out.outR (T := fun z => z.elim) (B := fun z => z.elim) (C := fun z => z.elim) ?_
      refine o_bindR ((draw_ok (m := 8) hs (by omega)).imp (fun r10 q => ?_) fun _ q => q)
      obtain ⟨_, _, q3⟩ := q
      exact o_ite (fun _ => ⟨q3, .inr rfl⟩) fun _ => ⟨q3, .inl rfl⟩
    · obtain ⟨n9, rd⟩ := r9
      obtain ⟨q1, zs, q2, q3⟩ := q
      replace q1 : Nn n9 := q1
      replace q3 : rd = [] ++ zs := q3
      rw [List.nil_append] at q3
      subst q3
      have hsub := q2.trans hcl
      have hlen := hsub.length_le
      have hgd : gd (decide (rd.length < 64)) (sortS rd) = .nx (sortS rd) := gd_true (decide_eq_true (by omega))
      refine o_bindR (o_eq hgd ?_)
      have hkp : k < pool.length := by omega
      refine o_bindR (o_eq (idx_nat (List.getElem?_eq_getElem hkp)) ?_)
      refine o_bindR (o_eq (appR_nx (by show fr.length < 1000000; omega)) ?_)
      have nmem : ∀ s, s ∈ pool → nameOk s := fun s hs => by
        obtain ⟨j, hj⟩ := List.getElem?_of_mem hs
        exact (hp.pn j s hj).1
      have perm := sortS_perm rd
      have ok : RgOk' (sortS rd, pool[k]) := by
        refine ⟨nmem _ (List.getElem_mem hkp), fun s hs => nmem s (hsub.subset (perm.mem_iff.mp hs)), ?_, by rw [perm.length_eq]; omega⟩
        have nd : (sortS rd).Nodup := perm.nodup_iff.mpr (hp.nd.sublist hsub)
        refine ((sortS_sorted rd).and nd).imp fun {a b} h => ?_
        obtain ⟨l1, l2⟩ := h
        apply Classical.byContradiction
        intro hc
        exact l2 (leS_anti l1 hc)
      refine o_nx ⟨q1, by simp [h2], fun r hr => ?_, fun j r' hj => ?_⟩
      · rcases List.mem_append.mp hr with hr | hr
        · exact h3 r hr
        · have : r = (sortS rd, pool[k]) := by simpa using hr
          rw [this]
          exact ok
      · replace hj : (fr ++ [(sortS rd, pool[k])])[j]? = some r' := hj
        rw [List.getElem?_append] at hj
        by_cases c : j < fr.length
        · rw [if_pos c] at hj
          exact h4 j r' hj
        · rw [if_neg c] at hj
          have hj2 : j - fr.length = 0 := by
            have := (List.getElem?_eq_some_iff.mp hj).1
            simp at this
            omega
          rw [hj2] at hj
          have es : r' = (sortS rd, pool[k]) := (Option.some.inj hj).symm
          have ej : j = k := by omega
          rw [es, ej]
          exact List.getElem?_eq_getElem hkp
  · obtain ⟨h1, h2, h3, h4⟩ := hs
    rw [rangeL_len] at h2
    replace h2 : s.2.length = ((n : Int) - 0).toNat := h2
    refine o_rt ⟨⟨by show s.2.length ≤ 8; omega, h3, ?_⟩, by show s.2.length = n; omega, h4, h1⟩
    refine List.pairwise_iff_getElem.mpr fun i j hi hj hij e => ?_
    rw [List.getElem_map, List.getElem_map] at e
    rw [List.length_map] at hi hj
    have a := h4 i _ (List.getElem?_eq_getElem hi)
    have b := h4 j _ (List.getElem?_eq_getElem hj)
    rw [e] at a
    obtain ⟨x1, x2⟩ := List.getElem?_eq_some_iff.mp a
    obtain ⟨y1, y2⟩ := List.getElem?_eq_some_iff.mp b
    exact List.pairwise_iff_getElem.mp hp.nd i j x1 y1 hij (x2.trans y2.symm)
end Lw

set_option Elab.async false
set_option linter.all false
set_option maxRecDepth 100000
set_option maxHeartbeats 1000000
namespace Lw
open PySem L2 Gv Sw
section
variable {n : Nat} {o : List Int} {fr : List Rg}
/-! ### orders drawn -/
theorem perm_erase {l : List Int} {k : Nat} {x : Int} (h : l[k]? = some x) : l.Perm (x :: l.eraseIdx k) := by
  induction l generalizing k with
  | nil => simp at h
  | cons a l ih =>
    cases k with
    | zero => simp at h; subst h; exact .refl _
    | succ k =>
      have h' : l[k]? = some x := by simpa using h
      exact ((ih h').cons a).trans (.swap x a _)
theorem order_ok {nums : List Int} (hn : Nn nums) (h8 : n ≤ 8) : OutR (f_law_order (nums, (n : Int))) (fun r => Ord n r.1 ∧ Nn r.2) (fun _ => False) := by
  refine o_fin ?_
  unfold m_law_order
  have hg : lrgR (n : Int) = .nx (rangeL 0 (n : Int)) := gd_true (by simp only [Bool.and_eq_true, decide_eq_true_eq]; omega)
  refine o_bindR (o_eq hg ?_)
  refine o_lt (o_lt ?_)
  refine o_bindR (o_eq (rngR_nx (by dsimp only; omega)) ?_)
  refine o_bind (o_for (fun k (s : List Int × List Int × List Int) => Nn s.1 ∧ (s.2.2 ++ s.2.1).Perm (rangeL 0 (n : Int)) ∧ s.2.2.length = k) ⟨hn, .refl _, rfl⟩ (fun k s b hb hs => ?_) fun s hs => ?_)
  · obtain ⟨ns, left, od⟩ := s
    obtain ⟨h1, h2, h3⟩ := hs
    replace h1 : Nn ns := h1
    replace h2 : (od ++ left).Perm (rangeL 0 (n : Int)) := h2
    replace h3 : od.length = k := h3
    obtain ⟨_, hk⟩ := rangeL_get0 (n := n) hb
    have hlen := h2.length_eq
    rw [List.length_append, rangeL_len] at hlen
    refine o_bindR ((draw_ok (m := (left.length : Int)) h1 (by omega)).imp (fun r7 q => ?_) fun _ q => q)
    obtain ⟨p7, n7⟩ := r7
    obtain ⟨a1, a2, a3⟩ := q
    replace a3 : Nn n7 := a3
    obtain ⟨j, rfl⟩ : ∃ j : Nat, p7 = (j : Int) := ⟨p7.toNat, by have : 0 ≤ p7 := a1; omega⟩
    have hj : j < left.length := by have : (j : Int) < (left.length : Int) := a2; omega
    have e8 : popAtR left (j : Int) = .nx (left[j], left.eraseIdx j) := by
      unfold popAtR
      rw [ixN_nat hj]
      simp only [List.getElem?_eq_getElem hj]
      exact gd_true (decide_eq_true (by omega))
    refine o_bindR (o_eq e8 ?_)
    refine o_bindR (o_eq (appR_nx (by show od.length < 1000000; omega)) ?_)
    refine o_nx ⟨a3, ?_, by simp [h3]⟩
    show ((od ++ [left[j]]) ++ left.eraseIdx j).Perm _
    rw [List.append_assoc]
    exact (List.Perm.append_left od (perm_erase (List.getElem?_eq_getElem hj)).symm).trans h2
  · obtain ⟨h1, h2, h3⟩ := hs
    rw [rangeL_len] at h3
    replace h3 : s.2.2.length = ((n : Int) - 0).toNat := h3
    have hlen := h2.length_eq
    rw [List.length_append, rangeL_len] at hlen
    have e : s.2.1 = [] := List.eq_nil_of_length_eq_zero (by omega)
    rw [e, List.append_nil] at h2
    exact o_rt ⟨h2, h1⟩
theorem led_ok {nums : List Int} (hn : Nn nums) (h : Frm fr) (ho : Ord fr.length o) : OutR (f_law_led (nums, fr, o)) (fun r => Ord fr.length r.1 ∧ dirs fr r.1 = dirs fr o ∧ Nn r.2) (fun _ => False) := by
  have hl := h.len
  refine o_fin ?_
  unfold m_law_led
  refine o_bindR (o_eq (rngR_nx (by omega)) ?_)
  refine o_bind (o_for (fun _ (s : List Int × List Int) => Nn s.1 ∧ Ord fr.length s.2 ∧ dirs fr s.2 = dirs fr o) ⟨hn, ho, rfl⟩ (fun k s b hb hs => ?_) fun s hs => o_rt ⟨hs.2.1, hs.2.2, hs.1⟩)
  obtain ⟨ns, c⟩ := s
  obtain ⟨h1, hc, hd⟩ := hs
  replace h1 : Nn ns := h1
  replace hc : Ord fr.length c := hc
  replace hd : dirs fr c = dirs fr o := hd
  have hlc := hc.len
  refine o_ite (fun z => ?_) fun _ => ⟨h1, hc, hd⟩
  have z' : (1 : Int) < (c.length : Int) := of_decide_eq_true z
  refine o_bindR ((draw_ok (m := (c.length : Int) - 1) h1 (by omega)).imp (fun r4 q => ?_) fun _ q => q)
  obtain ⟨p4, n4⟩ := r4
  obtain ⟨a1, a2, a3⟩ := q
  replace a3 : Nn n4 := a3
  obtain ⟨a, rfl⟩ : ∃ j : Nat, p4 = (j : Int) := ⟨p4.toNat, by have : 0 ≤ p4 := a1; omega⟩
  have ha : (a : Int) < (c.length : Int) - 1 := a2
  obtain ⟨p, x, y, s, ec, hpl, hpt⟩ := split2 (c := c) (k := a) (by omega)
  subst hpl
  have i1 : idx c (p.length : Int) = .nx x := idx_nat (by rw [ec]; simp)
  have i2 : idx c ((p.length : Int) + 1) = .nx y := idx_nat (k := p.length + 1) (by rw [ec]; simp)
  have hx := hc.mem.mp (show x ∈ c by rw [ec]; simp)
  have hy := hc.mem.mp (show y ∈ c by rw [ec]; simp)
  refine o_bindR (o_eq i1 ?_)
  refine o_bindR (o_eq i2 ?_)
  refine o_bindR (o_eq (ltouch_ok hx hy) ?_)
  refine o_ite (fun w => ?_) fun _ => ⟨a3, hc, hd⟩
  have t : tq fr (x, y) = false := by simpa using w
  have hc2 : Ord fr.length (p ++ x :: y :: s) := by rw [← ec]; exact hc
  have hc3 : Ord fr.length (p ++ y :: x :: s) := (List.Perm.append_left p (.swap x y s)).trans hc2
  refine o_bindR (o_eq i2 ?_)
  refine o_bindR (o_eq i1 ?_)
  refine o_bindR (o_eq (setR_nat (xs := c) (k := p.length) (by omega)) ?_)
  refine o_bindR (o_eq (setR_nat (xs := c.set p.length y) (k := p.length + 1) (by rw [List.length_set]; omega)) ?_)
  refine o_nx ⟨a3, ?_⟩
  have e9 : (c.set p.length y).set (p.length + 1) x = p ++ y :: x :: s := by rw [ec]; exact set2
  show Ord fr.length ((c.set p.length y).set (p.length + 1) x) ∧ dirs fr ((c.set p.length y).set (p.length + 1) x) = dirs fr o
  rw [e9]
  refine ⟨hc3, ?_⟩
  rw [← hd, ec]
  refine (dirs_iff hc3 hc2).mpr fun q hq => ?_
  obtain ⟨⟨q1, q2, q3⟩, q4⟩ := mem_touchL.mp hq
  refine bef_swap hc2.nodup (hc2.mem.mpr ⟨q1, by omega⟩) (hc2.mem.mpr ⟨by omega, q3⟩) ?_ ?_
  · rintro ⟨e1, e2⟩
    have : q = (x, y) := Prod.ext e1 e2
    rw [this, t] at q4
    cases q4
  · rintro ⟨e1, e2⟩
    have : q = (y, x) := Prod.ext e1 e2
    rw [this, tq_swap, t] at q4
    cases q4
theorem rev_ord (ho : Ord n o) : Ord n o.reverse := (List.reverse_perm o).trans ho
/-- the order turned round: all pairs unlike -/
theorem U_rev (ho : Ord n o) : U n o o.reverse = prs n := by
  unfold U
  rw [List.filter_eq_self]
  intro q hq
  obtain ⟨q1, q2, q3⟩ := mem_prs.mp hq
  have m1 := ho.mem.mpr ⟨q1, by omega⟩
  have m2 := ho.mem.mpr ⟨by omega, q3⟩
  have hlen := ho.len
  have rr : ∀ x, x ∈ o → rk o.reverse x = n - 1 - rk o x := fun x hx => by
    have h1 := rk_get hx
    have h2 := rk_lt hx
    refine rk_at (rev_ord ho).nodup ?_
    rw [List.getElem?_reverse (by omega), hlen, show n - 1 - (n - 1 - rk o x) = rk o x by omega]
    exact h1
  have ne : rk o q.1 ≠ rk o q.2 := fun e => by have := rk_inj m1 m2 e; omega
  have l1 := rk_lt m1
  have l2 := rk_lt m2
  unfold un bef
  rw [rr _ m1, rr _ m2]
  by_cases c : rk o q.1 < rk o q.2
  · rw [decide_eq_true c, decide_eq_false (by omega : ¬ n - 1 - rk o q.1 < n - 1 - rk o q.2)]
    rfl
  · rw [decide_eq_false c, decide_eq_true (by omega : n - 1 - rk o q.1 < n - 1 - rk o q.2)]
    rfl
theorem prs_len (h : n ≤ 8) : ((prs n).length : Int) = ((n : Int) * ((n : Int) - 1)) / 2 := by
  rcases (show n = 0 ∨ n = 1 ∨ n = 2 ∨ n = 3 ∨ n = 4 ∨ n = 5 ∨ n = 6 ∨ n = 7 ∨ n = 8 by omega) with e | e | e | e | e | e | e | e | e <;> rw [e] <;> decide
end
end Lw

set_option Elab.async false
set_option linter.all false
set_option maxRecDepth 100000
set_option maxHeartbeats 1000000
namespace Lw
open PySem L2 Gv Sw
/-! ### a datum is itself -/
structure Rf (v : PyData) (n : Nat) : Prop where
  eq : PyData.eqv v v = true
  lay : PyData.canLay0 v = true
  dep : PyData.depth v ≤ n
theorem eqR_self {v : PyData} {n : Nat} (h : Rf v n) (hn : n ≤ 64) : eqR v v = .nx true := by
  unfold eqR SeqAt.shaped
  rw [h.eq, h.lay, decide_eq_true (Nat.le_trans h.dep hn)]
  rfl
theorem rf_int (i : Int) : Rf (.int i) 0 := ⟨eq_i.eq i i |>.mpr rfl, eq_i.lay i, eq_i.dep i⟩
theorem rf_none : Rf .none 0 := ⟨by rw [PyData.eqv], by rw [PyData.canLay0], by rw [PyData.depth]; exact Nat.le_refl 0⟩
theorem rf_str {s : Str} (h : PyData.canLay0 (.str s) = true) : Rf (.str s) 0 := ⟨by rw [PyData.eqv]; exact beq_self_eq_true s, h, by rw [PyData.depth]; exact Nat.le_refl 0⟩
theorem rf_all {n : Nat} : ∀ {ds : List PyData}, (∀ d, d ∈ ds → Rf d n) → PyData.eqvAll ds ds = true ∧ PyData.canLayAll0 ds = true ∧ PyData.depthAll ds ≤ n
  | [], _ => ⟨eqvAll_n, layAll_n, by rw [depAll_n]; exact Nat.zero_le _⟩
  | d :: ds, h => by
    obtain ⟨a, b, c⟩ := h d List.mem_cons_self
    obtain ⟨x, y, z⟩ := rf_all fun e he => h e (List.mem_cons_of_mem _ he)
    exact ⟨by rw [eqvAll_c, a, x]; rfl, by rw [layAll_c, b, y]; rfl, by rw [depAll_c]; exact Nat.max_le.mpr ⟨c, z⟩⟩
theorem rf_list {n : Nat} {ds : List PyData} (h : ∀ d, d ∈ ds → Rf d n) : Rf (.list ds) (n + 1) := by
  obtain ⟨a, b, c⟩ := rf_all h
  exact ⟨by rw [PyData.eqv]; exact a, by rw [PyData.canLay0]; exact b, by rw [PyData.depth]; exact Nat.succ_le_succ c⟩
theorem rf_tuple {n : Nat} {ds : List PyData} (h : ∀ d, d ∈ ds → Rf d n) : Rf (.tuple ds) (n + 1) := by
  obtain ⟨a, b, c⟩ := rf_all h
  exact ⟨by rw [PyData.eqv]; exact a, by rw [PyData.canLay0]; exact b, by rw [PyData.depth]; exact Nat.succ_le_succ c⟩
theorem rf_two {a b : PyData} {n : Nat} (h1 : Rf a n) (h2 : Rf b n) : Rf (.tuple [a, b]) (n + 1) := rf_tuple fun d hd => by
  simp only [List.mem_cons, List.not_mem_nil, or_false] at hd
  rcases hd with rfl | rfl <;> assumption
theorem rf_three {a b c : PyData} {n : Nat} (h1 : Rf a n) (h2 : Rf b n) (h3 : Rf c n) : Rf (.tuple [a, b, c]) (n + 1) := rf_tuple fun d hd => by
  simp only [List.mem_cons, List.not_mem_nil, or_false] at hd
  rcases hd with rfl | rfl | rfl <;> assumption
theorem Rf.up {v : PyData} {n m : Nat} (h : Rf v n) (hm : n ≤ m) : Rf v m := ⟨h.eq, h.lay, Nat.le_trans h.dep hm⟩

section
variable {ρ lam α β : Type} {N : α → Prop} {T : ρ → Prop} {B C : lam → Prop} {E : Er → Prop}
theorem o_try {m : O ρ lam α} {h : Er → O ρ lam α} (h1 : Out m N T B C (fun x => Out (h x) N T B C E)) : Out (tryO m h) N T B C E := by
  cases m <;> exact h1
theorem o_eqE {m : R α} {e : Er} (h : m = .er e) (k : E e) : OutR m N E := by
  rw [h]
  exact k
end
theorem o_ersE {α : Type} {m : R α} {e : Er} (h : OutR m (fun _ => False) (fun x => x = e)) : m = .er e := by
  cases m with
  | nx a => exact h.elim
  | rt r => exact r.elim
  | bk r => exact r.elim
  | ct r => exact r.elim
  | er x => rw [show x = e from h]
  | stuck => exact h.elim
abbrev eNum (w : Str) : Er := ⟨"BadNumber", [("word", PyData.str w)]⟩
abbrev eMany : Er := ⟨"TooMany", [("limit", PyData.int 8)]⟩
abbrev eBook (k : Int) : Er := ⟨"BadBook", [("place", PyData.int k), ("word", PyData.str "frame")]⟩
/-! ### orders that are none -/
section
variable {n : Nat} {o o' : List Int} {fr : List Rg} {d d' : PyData}
theorem once_no {m : Int} (h : (isA "list" d || isA "tuple" d) = false) : f_each_once (d, m) = .nx false := by
  unfold f_each_once m_each_once
  rw [h]
  rfl
theorem once_len {xs : List PyData} {m : Int} (h : ¬ (xs.length : Int) = m) : f_each_once (.list xs, m) = .nx false := by
  obtain ⟨r, e, q⟩ := o_val (m := f_each_once (.list xs, m)) (N := fun r => r = false) (by
    refine o_fin ?_
    unfold m_each_once
    refine o_bind (o_ite (fun z => nomatch z) fun _ => ?_)
    refine o_bindR (o_eq (a := (xs.length : Int)) rfl ?_)
    refine o_nx (o_ite (fun _ => o_rt rfl) fun z => ?_)
    have z' : (!decide ((xs.length : Int) = m)) = false := z
    rw [decide_eq_false h] at z'
    cases z')
  rw [e, q]
theorem once_first {x : PyData} {xs : List PyData} {m : Int} (h : f_whole_in (x, 0, m - 1) = .nx false) : f_each_once (.list (x :: xs), m) = .nx false := by
  obtain ⟨r, e, q⟩ := o_val (m := f_each_once (.list (x :: xs), m)) (N := fun r => r = false) (by
    refine o_fin ?_
    unfold m_each_once
    refine o_bind (o_ite (fun z => nomatch z) fun _ => ?_)
    refine o_bindR (o_eq (a := ((x :: xs).length : Int)) rfl ?_)
    refine o_nx (o_ite (fun _ => o_rt rfl) fun _ => ?_)
    refine o_bindR (o_eq (a := x :: xs) rfl ?_)
    refine o_bind (o_for (fun k _ => k = 0) rfl (fun k s b hb hk => ?_) fun s hs => by simp at hs)
    subst hk
    have : b = x := (Option.some.inj hb).symm
    subst this
    refine o_bindR (o_eq h ?_)
    exact o_ite (fun _ => o_rt rfl) fun z => nomatch z)
  rw [e, q]
theorem once_twice {x : Int} (h2 : 2 ≤ n) (h8 : n ≤ 8) (hx : 0 ≤ x ∧ x < n) : f_each_once (.list ((List.replicate n x).map PyData.int), (n : Int)) = .nx false := by
  obtain ⟨r, e, q⟩ := o_val (m := f_each_once (.list ((List.replicate n x).map PyData.int), (n : Int))) (N := fun r => r = false) (by
    refine o_fin ?_
    unfold m_each_once
    refine o_bind (o_ite (fun z => nomatch z) fun _ => ?_)
    refine o_bindR (o_eq (a := (((List.replicate n x).map PyData.int).length : Int)) rfl ?_)
    refine o_nx (o_ite (fun _ => o_rt rfl) fun _ => ?_)
    refine o_bindR (o_eq (a := (List.replicate n x).map PyData.int) rfl ?_)
    refine o_bind (o_for (fun _ _ => True) trivial (fun i s b hb _ => ?_) fun _ _ => ?_)
    · obtain ⟨y, hy, rfl⟩ := List.mem_map.mp (List.mem_of_getElem? hb)
      have : y = x := (List.mem_replicate.mp hy).2
      subst this
      refine o_bindR (o_eq (whole_in _ _ _) ?_)
      refine o_ite (fun z => ?_) fun _ => trivial
      rw [decide_eq_true hx.1, decide_eq_true (show y ≤ (n : Int) - 1 by omega)] at z
      cases z
    · have e1 : setLenR (.list ((List.replicate n x).map PyData.int)) = .nx 1 := by
        unfold setLenR
        show bindR (intsR ((List.replicate n x).map PyData.int)) _ = _
        rw [ints_map, bindR_nx]
        have e2 : ((dd (List.replicate n x)).length : Int) = 1 := by
          rw [← dd_len (ys := [x]) (by simp) (fun k => by simp [List.mem_replicate]; omega)]
          rfl
        rw [e2]
        exact gd_true (decide_eq_true (by simp; omega))
      refine o_bindR (o_eq e1 ?_)
      refine o_rt (decide_eq_false ?_)
      show ¬ (1 : Int) = (n : Int)
      omega)
  rw [e, q]
theorem lenF (fr : List Rg) : Gv.lenD (fD fr) = .nx (fr.length : Int) := by show O.nx (((fr.map rD).length : Nat) : Int) = _; rw [List.length_map]
theorem swaps_order (h : Frm fr) (hb : f_each_once (d, (fr.length : Int)) = .nx false) : f_swaps (fD fr, d, d') = .er (eNum "order") := by
  unfold f_swaps m_swaps
  simp only [check_ok h, bindR_nx]
  have e : f_check_two_orders (fD fr, d, d') = .er (eNum "order") := by
    unfold f_check_two_orders m_check_two_orders
    simp only [lenF, bindR_nx, hb]
    rfl
  rw [e]
  rfl
theorem swaps_other (h : Frm fr) (ho : OrdD fr.length d o) (hb : f_each_once (d', (fr.length : Int)) = .nx false) : f_swaps (fD fr, d, d') = .er (eNum "other") := by
  have hl := h.len
  unfold f_swaps m_swaps
  simp only [check_ok h, bindR_nx]
  have e : f_check_two_orders (fD fr, d, d') = .er (eNum "other") := by
    unfold f_check_two_orders m_check_two_orders
    simp only [lenF, bindR_nx, hb, once_ok ho (by omega)]
    rfl
  rw [e]
  rfl
theorem directions_order (h : Frm fr) (hb : f_each_once (d, (fr.length : Int)) = .nx false) : f_directions (fD fr, d) = .er (eNum "order") := by
  unfold f_directions m_directions
  simp only [check_ok h, bindR_nx, lenF, hb]
  rfl
theorem swaps_er {f : PyData} {x : Er} (h : f_check_frame f = .er x) : f_swaps (f, d, d') = .er x := by
  unfold f_swaps m_swaps
  rw [h]
  rfl
theorem directions_er {f : PyData} {x : Er} (h : f_check_frame f = .er x) : f_directions (f, d) = .er x := by
  unfold f_directions m_directions
  rw [h]
  rfl
/-! ### what is told -/
abbrev hnd : Er → O PyData Empty PyData := clO sub_TooMany (fun x2 => bindR (fldR x2 "TooMany" "limit") fun t6 =>
lt ((dP2 PyData.str id) (("many" : Str), t6)) fun (told_7 : PyData) =>
.nx told_7) (clO sub_BadBook (fun x2 => bindR (fldR x2 "BadBook" "word") fun t8 =>
bindR (fldR x2 "BadBook" "place") fun t9 =>
lt ((dP2 id id) (t8, t9)) fun (told_10 : PyData) =>
.nx told_10) (clO sub_BadNumber (fun x2 => bindR (fldR x2 "BadNumber" "word") fun t11 =>
lt ((dP2 PyData.str id) (("number" : Str), t11)) fun (told_12 : PyData) =>
.nx told_12) (clO sub_RungsError (fun x2 => lt ((dP1 PyData.str) ("other" : Str)) fun (told_13 : PyData) =>
.nx told_13) (fun x => .er x))))
theorem hnd_many : hnd eMany = .nx (.tuple [.str "many", .int 8]) := rfl
theorem hnd_book (k : Int) : hnd (eBook k) = .nx (.tuple [.str "frame", .int k]) := rfl
theorem hnd_num (w : Str) : hnd (eNum w) = .nx (.tuple [.str "number", .str w]) := rfl
theorem word_er {t : Int} {f : PyData} {x : Er} {v : PyData} (h0 : f_swaps (f, d, d') = .er x) (h1 : t = 0 ∨ f_directions (f, d) = .er x) (hv : hnd x = .nx v) : f_law_word (t, f, d, d') = .nx v := by
  obtain ⟨r, e, q⟩ := o_val (m := f_law_word (t, f, d, d')) (N := fun r => r = v) (by
    refine o_fin ?_
    unfold m_law_word
    refine o_lt ?_
    refine o_bind (o_try ?_)
    refine o_ite (fun _ => ?_) fun z => ?_
    · refine o_bindR (o_eqE h0 ?_)
      show Out (hnd x) _ _ _ _ _
      rw [hv]
      exact o_nx (o_rt rfl)
    · have hne : ¬ t = 0 := of_decide_eq_false z
      refine o_bindR (o_eqE (h1.resolve_left hne) ?_)
      show Out (hnd x) _ _ _ _ _
      rw [hv]
      exact o_nx (o_rt rfl))
  rw [e, q]
theorem told_num {w : Str} (hw : PyData.canLay0 (.str w) = true) : eqR (.tuple [.str "number", .str w]) (.tuple [.str "number", .str w]) = .nx true := eqR_self (rf_two (rf_str (by decide +kernel)) (rf_str hw)) (by decide)
theorem told_many : eqR (.tuple [.str "many", .int 8]) (.tuple [.str "many", .int 8]) = .nx true := eqR_self (rf_two (rf_str (by decide +kernel)) (rf_int 8)) (by decide)
theorem told_book (k : Int) : eqR (.tuple [.str "frame", .int k]) (.tuple [.str "frame", .int k]) = .nx true := eqR_self (rf_two (rf_str (by decide +kernel)) (rf_int k)) (by decide)
/-! ### frames that are none -/
theorem nine_er {xs : List PyData} (h : 8 < xs.length) : f_check_frame (.tuple xs) = .er eMany := by
  refine o_ersE ?_
  refine o_fin ?_
  unfold m_check_frame
  refine o_bindR (o_eq (a := (xs.length : Int)) rfl ?_)
  exact o_ite (fun _ => o_er rfl) fun z => absurd (of_decide_eq_false z) (by omega)
theorem again_er {r : Rg} (h : Frm fr) (h8 : fr.length < 8) (h0 : fr[0]? = some r) : f_check_frame (fD (fr ++ [r])) = .er (eBook fr.length) := by
  have hr := List.mem_of_getElem? h0
  have hpos : 0 < fr.length := (List.getElem?_eq_some_iff.mp h0).1
  refine o_ersE ?_
  refine o_fin ?_
  unfold m_check_frame
  refine o_bindR (o_eq (a := (((fr ++ [r]).map rD).length : Int)) rfl ?_)
  refine o_ite (fun z => absurd (of_decide_eq_true z) (by simp; omega)) fun _ => ?_
  refine o_lt ?_
  refine o_bindR (o_eq (a := (fr ++ [r]).map rD) rfl ?_)
  refine o_bind (o_for (fun k (s : List Str) => k ≤ fr.length ∧ s = (fr.take k).map (·.2)) ⟨Nat.zero_le _, rfl⟩ (fun k s b hb hs => ?_) fun s hs => ?_)
  · obtain ⟨hk, hs⟩ := hs
    obtain ⟨b1, b2⟩ := enumL_get hb
    rw [List.getElem?_map] at b2
    obtain ⟨r', hr', eb⟩ := Option.map_eq_some_iff.mp b2
    rw [← eb]
    have a1 : atD (rD r') (1 : Int) = .nx (.str r'.2) := atD_tup (k := 1) rfl
    rw [List.getElem?_append] at hr'
    subst hs
    by_cases c : k < fr.length
    · rw [if_pos c] at hr'
      obtain ⟨hk', gk⟩ := List.getElem?_eq_some_iff.mp hr'
      refine o_bind (o_bindR (o_eq (fits_ok (h.ok r' (List.mem_of_getElem? hr'))) ?_))
      refine o_ite (fun z => nomatch z) fun _ => ?_
      refine o_bindR (o_eq a1 ?_)
      refine o_bindR (o_eq (a := r'.2) rfl ?_)
      refine o_nx (o_ite (fun z => ?_) fun _ => ?_)
      · exfalso
        have hm := of_decide_eq_true z
        obtain ⟨r2, h1, h2⟩ := List.mem_map.mp hm
        obtain ⟨j, hj, gj⟩ := List.getElem_of_mem h1
        have hj' : j < k := by simp at hj; omega
        have pw := List.pairwise_iff_getElem.mp h.nd j k (by simp; omega) (by simpa using hk') hj'
        rw [List.getElem_map, List.getElem_map] at pw
        rw [List.getElem_take] at gj
        exact pw (by rw [gj, gk, h2])
      · refine o_bindR (o_eq a1 ?_)
        refine o_bindR (o_eq (a := r'.2) rfl ?_)
        refine o_bindR (o_eq (appR_nx (by simp; omega)) ?_)
        refine o_nx ⟨by omega, ?_⟩
        rw [List.take_add_one, hr', List.map_append]
        rfl
    · rw [if_neg c] at hr'
      have ek : k = fr.length := by omega
      rw [ek, Nat.sub_self] at hr'
      have er : r' = r := (Option.some.inj hr').symm
      subst er
      refine o_bind (o_bindR (o_eq (fits_ok (h.ok r' hr)) ?_))
      refine o_ite (fun z => nomatch z) fun _ => ?_
      refine o_bindR (o_eq a1 ?_)
      refine o_bindR (o_eq (a := r'.2) rfl ?_)
      refine o_nx (o_ite (fun _ => o_er ?_) fun z => ?_)
      · rw [b1, ek]
      · exfalso
        refine (of_decide_eq_false z) ?_
        rw [ek, List.take_length]
        exact List.mem_map.mpr ⟨r', hr, rfl⟩
  · obtain ⟨hk, _⟩ := hs
    rw [enumL_len] at hk
    simp at hk
    omega
theorem pair_er {p0 p1 : Str} (n0 : nameOk p0) (n1 : nameOk p1) (hne : p0 ≠ p1) : f_check_frame (.tuple [rD ([], p0), rD ([p0, p0], p1)]) = .er (eBook 1) := by
  have fit0 : f_frame_rung_fits (rD ([], p0)) = .nx true := fits_ok ⟨n0, (fun _ h => nomatch h), .nil, by simp⟩
  have fit1 : f_frame_rung_fits (rD ([p0, p0], p1)) = .nx false := by
    obtain ⟨b, e, q⟩ := o_val (m := f_frame_rung_fits (rD ([p0, p0], p1))) (N := fun b => b = false) (by
      refine o_fin ?_
      unfold m_frame_rung_fits
      have a0 : atD (rD ([p0, p0], p1)) (0 : Int) = .nx (.tuple [.str p0, .str p0]) := atD_tup (k := 0) rfl
      have a1 : atD (rD ([p0, p0], p1)) (1 : Int) = .nx (.str p1) := atD_tup (k := 1) rfl
      refine o_bind (o_ite (fun z => nomatch z) fun _ => ?_)
      refine o_bindR (o_eq (a := (2 : Int)) rfl ?_)
      refine o_ite (fun z => absurd z (by decide)) fun _ => ?_
      refine o_bindR (o_eq a0 ?_)
      refine o_nx (o_ite (fun z => nomatch z) fun _ => ?_)
      refine o_bindR (o_eq a0 ?_)
      refine o_bindR (o_eq (a := [.str p0, .str p0]) rfl ?_)
      refine o_bindR (o_eq a1 ?_)
      refine o_bindR (o_eq (a := [.str p0, .str p0, .str p1]) rfl ?_)
      refine o_bind (o_for (fun _ _ => True) trivial (fun i s b hb _ => ?_) fun _ _ => ?_)
      · have hn : f_is_name b = .nx true := by
          have hm := List.mem_of_getElem? hb
          simp only [List.mem_cons, List.not_mem_nil, or_false] at hm
          rcases hm with rfl | rfl | rfl
          · exact n0
          · exact n0
          · exact n1
        refine o_bindR (o_eq hn ?_)
        exact o_ite (fun z => nomatch z) fun _ => trivial
      · refine o_bindR (o_eq a0 ?_)
        refine o_bindR (o_eq a0 ?_)
        refine o_bindR (o_eq (a := .tuple [.str p0]) rfl ?_)
        refine o_bindR (o_eq (a := [(.str p0, .str p0)]) rfl ?_)
        refine o_bind (o_for (fun k _ => k = 0) rfl (fun k s b hb hk => ?_) fun s hs => by simp at hs)
        subst hk
        have eb : b = (.str p0, .str p0) := (Option.some.inj hb).symm
        subst eb
        refine o_bindR (o_eq (a := p0) rfl ?_)
        refine o_bindR (o_eq (a := p0) rfl ?_)
        refine o_ite (fun _ => o_rt rfl) fun z => ?_
        exfalso
        unfold geS at z
        rw [decide_eq_false (List.lt_irrefl _)] at z
        cases z)
    rw [e, q]
  refine o_ersE ?_
  refine o_fin ?_
  unfold m_check_frame
  refine o_bindR (o_eq (a := (2 : Int)) rfl ?_)
  refine o_ite (fun z => absurd z (by decide)) fun _ => ?_
  refine o_lt ?_
  refine o_bindR (o_eq (a := [rD ([], p0), rD ([p0, p0], p1)]) rfl ?_)
  refine o_bind (o_for (fun k (s : List Str) => (k = 0 ∧ s = []) ∨ k = 1) (.inl ⟨rfl, rfl⟩) (fun k s b hb hs => ?_) fun s hs => ?_)
  · obtain ⟨b1, b2⟩ := enumL_get hb
    rcases hs with ⟨rfl, rfl⟩ | rfl
    · have eb : b.2 = rD ([], p0) := (Option.some.inj b2).symm
      rw [eb]
      have a1 : atD (rD ([], p0)) (1 : Int) = .nx (.str p0) := atD_tup (k := 1) rfl
      refine o_bind (o_bindR (o_eq fit0 ?_))
      refine o_ite (fun z => nomatch z) fun _ => ?_
      refine o_bindR (o_eq a1 ?_)
      refine o_bindR (o_eq (a := p0) rfl ?_)
      refine o_nx (o_ite (fun z => absurd (of_decide_eq_true z) (by simp)) fun _ => ?_)
      refine o_bindR (o_eq a1 ?_)
      refine o_bindR (o_eq (a := p0) rfl ?_)
      refine o_bindR (o_eq (a := [p0]) rfl ?_)
      exact o_nx (.inr rfl)
    · have eb : b.2 = rD ([p0, p0], p1) := (Option.some.inj b2).symm
      rw [eb]
      refine o_bind (o_bindR (o_eq fit1 ?_))
      refine o_ite (fun _ => ?_) fun z => nomatch z
      refine o_nx (o_ite (fun _ => o_er ?_) fun z => nomatch z)
      rw [b1]
      rfl
  · rcases hs with ⟨h1, _⟩ | h1
    · rw [enumL_len] at h1; simp at h1
    · rw [enumL_len] at h1; simp at h1
end
end Lw

set_option Elab.async false
set_option linter.all false
set_option maxRecDepth 100000
set_option maxHeartbeats 1000000
namespace Lw
open PySem L2 Gv Sw
section
variable {o : List Int} {fr : List Rg} {pool : List Str}
theorem cut1 {α : Type} (xs : List α) : cutL xs (some (1 : Int)) none = xs.drop 1 := by
  unfold cutL
  have e1 : HT.sIx xs.length 0 (some (1 : Int)) = min 1 xs.length := HT.sIx_nat _ _ 1
  have e2 : HT.sIx xs.length xs.length none = xs.length := rfl
  rw [e1, e2]
  cases xs with
  | nil => rfl
  | cons a t =>
    rw [show min 1 (a :: t).length = 1 by simp]
    exact List.take_of_length_le (by simp)
theorem cut9 {α : Type} {xs : List α} (h : xs.length = 9) : cutL xs none (some (9 : Int)) = xs := by
  unfold cutL
  have e1 : HT.sIx xs.length 0 none = 0 := rfl
  have e2 : HT.sIx xs.length xs.length (some (9 : Int)) = min 9 xs.length := HT.sIx_nat _ _ 9
  rw [e1, e2, h]
  exact List.take_of_length_le (by simp [h])
theorem refused_ok (h : Frm fr) (h1 : 1 ≤ fr.length) (ho : Ord fr.length o) (hp : Pool pool) (h9 : pool.length = 9) : f_law_refused (pool, fr, o) = .nx true := by
  have hl := h.len
  have hlo := ho.len
  have hod : OrdD fr.length (.list (o.map PyData.int)) o := ⟨.inl rfl, ho⟩
  have wO : PyData.canLay0 (.str "order") = true := by decide +kernel
  have wT : PyData.canLay0 (.str "other") = true := by decide +kernel
  obtain ⟨r, e, q⟩ := o_val (m := f_law_refused (pool, fr, o)) (N := fun r => r = true) (by
    refine o_fin ?_
    unfold m_law_refused
    refine o_lt ?_
    refine o_bindR (o_eq (catR_nx (by show o.length + 1 ≤ 1000000; omega)) ?_)
    have hcut : (cutL o (some (1 : Int)) none).length = fr.length - 1 := by rw [cut1, List.length_drop, hlo]
    refine o_bindR (o_eq (catR_nx (by show 1 + (cutL o (some (1 : Int)) none).length ≤ 1000000; omega)) ?_)
    refine o_bindR (o_eq (catR_nx (by show 1 + (cutL o (some (1 : Int)) none).length ≤ 1000000; omega)) ?_)
    refine o_bindR (o_eq (catR_nx (by show 1 + (List.map PyData.int (cutL o (some (1 : Int)) none)).length ≤ 1000000; rw [List.length_map]; omega)) ?_)
    refine o_bind (o_for (fun _ _ => True) trivial (fun i s b hb _ => ?_) fun _ _ => ?_)
    · have hbad : f_each_once (b, (fr.length : Int)) = .nx false := by
        have hm := List.mem_of_getElem? hb
        simp only [List.mem_cons, List.not_mem_nil, or_false] at hm
        rcases hm with rfl | rfl | rfl | rfl | rfl | rfl | rfl | rfl
        · exact once_len (by rw [List.length_map]; show ¬ (((cutL o (some (1 : Int)) none).length : Nat) : Int) = _; omega)
        · exact once_len (by rw [List.length_map, List.length_append, List.length_singleton]; show ¬ ((o.length + 1 : Nat) : Int) = _; omega)
        · refine once_first (xs := (cutL o (some (1 : Int)) none).map PyData.int) ?_
          show f_whole_in (.int (o.length : Int), 0, (fr.length : Int) - 1) = _
          rw [whole_in, hlo, decide_eq_false (show ¬ (fr.length : Int) ≤ (fr.length : Int) - 1 by omega), Bool.and_false]
        · refine once_first (xs := (cutL o (some (1 : Int)) none).map PyData.int) ?_
          show f_whole_in (.int (-1), 0, (fr.length : Int) - 1) = _
          rw [whole_in]
          rfl
        · refine once_first (xs := ((cutL o (some (1 : Int)) none).map PyData.int).map id) ?_
          rfl
        · exact once_no rfl
        · exact once_no rfl
        · exact once_no rfl
      refine o_bindR (o_eq (rngR_nx (by omega)) ?_)
      refine o_bind (o_for (fun _ _ => True) trivial (fun i2 s2 b2 hb2 _ => ?_) fun _ _ => ?_)
      · refine o_bindR (o_eq (word_er (swaps_order h hbad) (.inr (directions_order h hbad)) (hnd_num "order")) ?_)
        refine o_bindR (o_eq (told_num wO) ?_)
        exact o_ite (fun z => nomatch z) fun _ => trivial
      · refine o_bindR (o_eq (word_er (swaps_other h hod hbad) (.inl rfl) (hnd_num "other")) ?_)
        refine o_bindR (o_eq (told_num wT) ?_)
        exact o_ite (fun z => nomatch z) fun _ => trivial
    · refine o_bind (Out.imp (N := fun _ => True) (T := fun _ => False) (B := fun _ => False) (C := fun _ => False) (E := fun _ => False) ?_ (fun _ _ => ?_) (fun _ q => q.elim) (fun _ q => q.elim) (fun _ q => q.elim) fun _ q => q)
      · refine o_ite (fun z => ?_) fun _ => trivial
        have z' : (1 : Int) < (o.length : Int) := of_decide_eq_true z
        refine o_bindR (o_eq (rngR_nx (by show _ ∧ _ ∧ _ ∧ (o.length : Int) ≤ _; omega)) ?_)
        obtain ⟨x, hx⟩ : ∃ x, o[0]? = some x := ⟨o[0], List.getElem?_eq_getElem (by omega)⟩
        have ei : idx o (0 : Int) = .nx x := idx_nat (k := 0) hx
        have hxm := ho.mem.mp (List.mem_of_getElem? hx)
        refine o_bindR (o_eq (lcR_map (fun _ => x) (rangeL 0 (o.length : Int)) [] (fun b _ => by show bindR (idx o (0 : Int)) _ = _; rw [ei]; rfl) (by rw [rangeL_len]; simp; omega)) ?_)
        have etw : [] ++ (rangeL 0 (o.length : Int)).map (fun _ => x) = List.replicate fr.length x := by
          rw [List.nil_append]
          refine List.eq_replicate_iff.mpr ⟨by rw [List.length_map, rangeL_len]; omega, fun b hb => ?_⟩
          obtain ⟨_, _, rfl⟩ := List.mem_map.mp hb
          rfl
        rw [etw]
        have hbad : f_each_once (.list ((List.replicate fr.length x).map PyData.int), (fr.length : Int)) = .nx false := once_twice (by omega) hl hxm
        refine o_bindR (o_eq (word_er (swaps_other h hod hbad) (.inl rfl) (hnd_num "other")) ?_)
        refine o_bindR (o_eq (told_num wT) ?_)
        refine o_ite (fun z => nomatch z) fun _ => ?_
        refine o_bindR (o_eq (word_er (swaps_order h hbad) (.inr (directions_order h hbad)) (hnd_num "order")) ?_)
        refine o_bindR (o_eq (told_num wO) ?_)
        exact o_ite (fun z => nomatch z) fun _ => trivial
      · refine o_bindR (o_eq (rngR_nx (by omega)) ?_)
        refine o_bind (o_for (fun _ _ => True) trivial (fun i s b hb _ => ?_) fun _ _ => o_rt rfl)
        have ec : cutL pool none (some (9 : Int)) = pool := cut9 h9
        refine o_bindR (o_eq (lcR_map (fun b => (([] : List Int), b)) (cutL pool none (some (9 : Int))) [] (fun _ _ => rfl) (by rw [ec]; simp; omega)) ?_)
        have n9 : f_check_frame ((dT (dP2 (dT PyData.int) PyData.str)) ([] ++ (cutL pool none (some (9 : Int))).map fun b => (([] : List Int), b))) = .er eMany := nine_er (by rw [ec]; simp; omega)
        refine o_bindR (o_eq (word_er (swaps_er n9) (.inr (directions_er n9)) hnd_many) ?_)
        refine o_bindR (o_eq told_many ?_)
        refine o_ite (fun z => nomatch z) fun _ => ?_
        obtain ⟨r0, hr0⟩ : ∃ r0, fr[0]? = some r0 := ⟨fr[0], List.getElem?_eq_getElem (by omega)⟩
        refine o_bindR (o_eq (idx_nat (k := 0) hr0) ?_)
        refine o_bindR (o_eq (catR_nx (by show fr.length + 1 ≤ 1000000; omega)) ?_)
        have tail : Out (bindR (idx pool (0 : Int)) fun t38 => bindR (idx pool (0 : Int)) fun t39 => bindR (idx pool (0 : Int)) fun t40 => bindR (idx pool (1 : Int)) fun t41 =>
            bindR (f_law_word (b, ((dP2 (dP2 (dT PyData.int) PyData.str) (dP2 (dP2 PyData.str PyData.str) PyData.str)) ((([] : List Int), t38), ((t39, t40), t41))), (dN ()), (dN ()))) fun r42 =>
            bindR (eqR r42 ((dP2 PyData.str PyData.int) (("frame" : Str), (1 : Int)))) fun t43 => if (!t43) then (.rt false : O Bool Unit Unit) else (.nx ())) (fun _ => True) (fun r => r = true) (fun _ => False) (fun _ => True) (fun _ => False) := by
          have p0 : pool[0]? = some pool[0] := List.getElem?_eq_getElem (by omega)
          have p1 : pool[1]? = some pool[1] := List.getElem?_eq_getElem (by omega)
          refine o_bindR (o_eq (idx_nat (k := 0) p0) ?_)
          refine o_bindR (o_eq (idx_nat (k := 0) p0) ?_)
          refine o_bindR (o_eq (idx_nat (k := 0) p0) ?_)
          refine o_bindR (o_eq (idx_nat (k := 1) p1) ?_)
          have ne : pool[0] ≠ pool[1] := List.pairwise_iff_getElem.mp hp.nd 0 1 (by omega) (by omega) (by omega)
          have e2 := pair_er (hp.pn 0 _ p0).1 (hp.pn 1 _ p1).1 ne
          refine o_bindR (o_eq (word_er (swaps_er e2) (.inr (directions_er e2)) (hnd_book 1)) ?_)
          refine o_bindR (o_eq (told_book 1) ?_)
          exact o_ite (fun z => nomatch z) fun _ => trivial
        by_cases c8 : fr.length = 8
        · have e8 : f_check_frame (fD (fr ++ [r0])) = .er eMany := nine_er (by simp; omega)
          refine o_bindR (o_eq (word_er (swaps_er e8) (.inr (directions_er e8)) hnd_many) ?_)
          have ei : decide (((o.length : Nat) : Int) = 8) = true := decide_eq_true (by omega)
          show Out (bindR (idx _ (if decide (((o.length : Nat) : Int) = 8) then (1 : Int) else 0)) _) _ _ _ _ _
          rw [ei]
          refine o_bindR (o_eq (a := (("many" : Str), (8 : Int))) rfl ?_)
          refine o_bindR (o_eq told_many ?_)
          refine o_ite (fun z => nomatch z) fun _ => ?_
          exact tail.imp (fun _ q => q) (fun _ q => q) (fun _ q => q.elim) (fun _ q => q) fun _ q => q
        · have e8 := again_er h (by omega) hr0
          refine o_bindR (o_eq (word_er (swaps_er e8) (.inr (directions_er e8)) (hnd_book _)) ?_)
          have ei : decide (((o.length : Nat) : Int) = 8) = false := decide_eq_false (by omega)
          show Out (bindR (idx _ (if decide (((o.length : Nat) : Int) = 8) then (1 : Int) else 0)) _) _ _ _ _ _
          rw [ei]
          refine o_bindR (o_eq (a := (("frame" : Str), ((o.length : Nat) : Int))) rfl ?_)
          rw [hlo]
          refine o_bindR (o_eq (told_book _) ?_)
          refine o_ite (fun z => nomatch z) fun _ => ?_
          exact tail.imp (fun _ q => q) (fun _ q => q) (fun _ q => q.elim) (fun _ q => q) fun _ q => q)
  rw [e, q]
end
end Lw

set_option Elab.async false
set_option linter.all false
set_option maxRecDepth 100000
set_option maxHeartbeats 1000000
namespace Lw
open PySem L2 Gv Sw
theorem frm_nil : Frm [] := ⟨by simp, fun _ h => (nomatch h), .nil⟩
theorem ord_nil : Ord 0 [] := .refl _
theorem touch_nil : f_touching (.list []) = .nx [] := by
  unfold f_touching m_touching
  rw [show f_check_frame (.list []) = .nx () from rfl]
  simp only [bindR_nx]
  rw [show Gv.lenD (.list []) = .nx 0 from rfl]
  simp only [bindR_nx]
  rw [rngR_nx (by omega)]
  rfl
theorem directed_nil (d : PyData) (h : itemsD d = .nx []) : f_directed (.list [], d) = .nx [] := by
  unfold f_directed m_directed
  simp only [h, bindR_nx, touch_nil]
  rfl
theorem same_nil : f_same_for_all (.list [], .list [], .tuple []) = .nx true := by
  unfold f_same_for_all m_same_for_all
  rw [show f_check_frame (.list []) = .nx () from rfl]
  simp only [bindR_nx]
  rw [show f_check_two_orders (.list [], .list [], .tuple []) = .nx () from rfl]
  simp only [bindR_nx]
  have e : f_parted (.list [], .list [], .tuple []) = .nx none := by
    unfold f_parted m_parted
    simp only [directed_nil (.list []) rfl, directed_nil (.tuple []) rfl, bindR_nx]
    rfl
  rw [e]
  rfl
theorem law_true (ns : List Int) (hl : ns.length ≤ 63) : f_law ns = .nx true := by
  obtain ⟨r, e, q⟩ := o_val (m := f_law ns) (N := fun r => r = true) (by
    refine o_fin ?_
    unfold m_law
    obtain ⟨nums, en, hn⟩ := numbers_ok hl
    refine o_bindR (o_eq en ?_)
    refine o_bindR ((pool_ok hn).imp (fun r2 q => ?_) fun _ q => q)
    obtain ⟨pool, n2⟩ := r2
    obtain ⟨hp, h9, q2⟩ := q
    replace hp : Pool pool := hp
    replace h9 : pool.length = 9 := h9
    replace q2 : Nn n2 := q2
    refine o_bindR ((draw_ok q2 (by omega)).imp (fun r3 q => ?_) fun _ q => q)
    obtain ⟨p3, n3⟩ := r3
    obtain ⟨a1, a2, a3⟩ := q
    replace a1 : 0 ≤ p3 := a1
    replace a2 : p3 < 6 := a2
    replace a3 : Nn n3 := a3
    refine o_lt ?_
    refine o_bind (Out.imp (N := fun s => Nn s.1 ∧ 1 ≤ s.2 ∧ s.2 ≤ 8) (T := fun _ => False) (B := fun _ => False) (C := fun _ => False) (E := fun _ => False) ?_ (fun s5 hs => ?_) (fun _ q => q.elim) (fun _ q => q.elim) (fun _ q => q.elim) fun _ q => q)
    · refine o_bindR ((draw_ok a3 (by omega)).imp (fun r6 q => ?_) fun _ q => q)
      obtain ⟨p6, n6⟩ := r6
      obtain ⟨_, _, b3⟩ := q
      replace b3 : Nn n6 := b3
      refine o_ite (fun _ => ?_) fun _ => ⟨b3, (show 1 ≤ 1 + p3 by omega), (show 1 + p3 ≤ 8 by omega)⟩
      exact o_lt ⟨b3, (show (1 : Int) ≤ 8 by omega), (show (8 : Int) ≤ 8 by omega)⟩
    obtain ⟨n5, many⟩ := s5
    obtain ⟨hn5, m1, m2⟩ := hs
    replace hn5 : Nn n5 := hn5
    replace m1 : 1 ≤ many := m1
    replace m2 : many ≤ 8 := m2
    obtain ⟨n, rfl⟩ : ∃ n : Nat, many = (n : Int) := ⟨many.toNat, by omega⟩
    have h8 : n ≤ 8 := by omega
    refine o_bindR ((frame_ok hn5 hp h9 h8).imp (fun r8 q => ?_) fun _ q => q)
    obtain ⟨fr, n8⟩ := r8
    obtain ⟨hf, hfl, _, q8⟩ := q
    replace hf : Frm fr := hf
    replace hfl : fr.length = n := hfl
    replace q8 : Nn n8 := q8
    subst hfl
    have h1f : 1 ≤ fr.length := by omega
    refine o_bindR ((order_ok (n := fr.length) q8 h8).imp (fun r9 q => ?_) fun _ q => q)
    obtain ⟨o, n9⟩ := r9
    obtain ⟨ho, q9⟩ := q
    replace ho : Ord fr.length o := ho
    replace q9 : Nn n9 := q9
    refine o_bindR ((led_ok q9 hf ho).imp (fun r10 q => ?_) fun _ q => q)
    obtain ⟨led, n10⟩ := r10
    obtain ⟨hled, hdir, q10⟩ := q
    replace hled : Ord fr.length led := hled
    replace hdir : dirs fr led = dirs fr o := hdir
    replace q10 : Nn n10 := q10
    refine o_bindR ((order_ok (n := fr.length) q10 h8).imp (fun r11 q => ?_) fun _ q => q)
    obtain ⟨dr, n11⟩ := r11
    obtain ⟨hdr, _⟩ := q
    replace hdr : Ord fr.length dr := hdr
    refine o_lt ?_
    have hod : OrdD fr.length (.list (o.map PyData.int)) o := ⟨.inl rfl, ho⟩
    refine o_bind (o_for (fun _ _ => True) trivial (fun i s b hb _ => ?_) fun _ _ => ?_)
    · have hob : Ord fr.length b := by
        have hm := List.mem_of_getElem? hb
        simp only [List.mem_cons, List.not_mem_nil, or_false] at hm
        rcases hm with rfl | rfl | rfl | rfl
        · exact hled
        · exact hdr
        · exact rev_ord ho
        · exact ho
      have hbt : OrdD fr.length (.tuple (b.map PyData.int)) b := ⟨.inr rfl, hob⟩
      have hbl : OrdD fr.length (.list (b.map PyData.int)) b := ⟨.inl rfl, hob⟩
      refine o_bind ?_
      refine o_bindR (o_eq (right_ok hf ho hob) ?_)
      refine o_ite (fun z => nomatch z) fun _ => ?_
      refine o_bindR (o_eq (right_ok hf hob ho) ?_)
      refine o_nx (o_ite (fun z => nomatch z) fun _ => ?_)
      refine o_bindR (o_eq (directions_ok hf hod) ?_)
      refine o_bindR (o_eq (directions_ok hf hbt) ?_)
      refine o_bind (o_ite (fun z => nomatch z) fun _ => ?_)
      refine o_bindR (o_eq (ldirections_ok h8 ho) ?_)
      refine o_nx (o_ite (fun z => absurd z (by simp)) fun _ => ?_)
      refine o_bind ?_
      refine o_bindR (o_eq (ldirections_ok h8 hob) ?_)
      refine o_ite (fun z => absurd z (by simp)) fun _ => ?_
      refine o_bindR (o_eq (same_ok hf hod hbl) ?_)
      have e1 : decide (sortP (dirs fr o) = sortP (dirs fr b)) = decide (dirs fr o = dirs fr b) := by rw [decide_eq_decide]; exact sort_dirs ho hob
      refine o_nx (o_ite (fun z => ?_) fun _ => trivial)
      rw [e1] at z
      simp at z
    · have e1 : f_directions (((dT PyData.int) ([] : List Int)), ((dT PyData.int) ([] : List Int))) = .nx [] := directions_ok (d := .tuple []) (o := []) frm_nil ⟨.inr rfl, ord_nil⟩
      have e2 : f_swaps (((dT PyData.int) ([] : List Int)), ((dT PyData.int) ([] : List Int)), ((dL PyData.int) ([] : List Int))) = .nx (some []) := by
        obtain ⟨r, a, _, b⟩ := swaps_ok (fr := []) (d := .tuple []) (d' := .list []) (o := []) (o' := []) frm_nil ⟨.inr rfl, ord_nil⟩ ⟨.inl rfl, ord_nil⟩
        obtain ⟨ks, rfl, _, hk⟩ := b rfl
        have : ks = [] := List.eq_nil_of_length_eq_zero hk
        subst this
        exact a
      have e3 : f_same_for_all (((dL PyData.int) ([] : List Int)), ((dL PyData.int) ([] : List Int)), ((dT PyData.int) ([] : List Int))) = .nx true := same_nil
      refine o_bind ?_
      refine o_bindR (o_eq e1 ?_)
      have e0 : eqR (.tuple []) (.tuple []) = .nx true := eqR_self (rf_tuple (n := 0) fun _ h => nomatch h) (by decide)
      refine o_bindR (o_eq e0 ?_)
      refine o_ite (fun z => nomatch z) fun _ => ?_
      refine o_bindR (o_eq e2 ?_)
      refine o_ite (fun z => absurd z (by simp)) fun _ => ?_
      refine o_bindR (o_eq e3 ?_)
      refine o_nx (o_ite (fun z => absurd z (by simp)) fun _ => ?_)
      refine o_bind ?_
      obtain ⟨r, a, _, b⟩ := swaps_ok (d := .list (o.map PyData.int)) (d' := .list (led.map PyData.int)) hf hod ⟨.inl rfl, hled⟩
      obtain ⟨ks, rfl, _, _⟩ := b hdir.symm
      refine o_bindR (o_eq a ?_)
      refine o_ite (fun z => nomatch z) fun _ => ?_
      refine o_bindR (o_eq (unlike_ok ho (rev_ord ho) h8) ?_)
      have em : mulR (fr.length : Int) ((fr.length : Int) - 1) = .nx ((fr.length : Int) * ((fr.length : Int) - 1)) := mulR_nx (a := (fr.length : Int)) (b := (fr.length : Int) - 1) (.inr (by have := h8; have h0 : (0 : Int) ≤ (fr.length : Int) := Int.natCast_nonneg _; omega))
      refine o_bindR (o_eq em ?_)
      refine o_nx (o_ite (fun z => ?_) fun _ => ?_)
      · rw [U_rev ho, prs_len h8] at z
        simp at z
      · refine o_bindR (o_eq (refused_ok (pool := pool) (fr := fr) (o := o) hf h1f ho hp h9) ?_)
        exact o_rt rfl)
  rw [e, q]
end Lw

set_option Elab.async false
set_option linter.all false
set_option maxRecDepth 100000
set_option maxHeartbeats 4000000
/-! the defs do what their mirrors tell -/
namespace Lw
open PySem L2 Gv
def top (i : Nat) : Stmt := PySem.Challenge.pw_guardrungs_k07_least_swaps.main.body.getD i (.Pass ⟨0, 0, 0, 0⟩)
abbrev st_is_whole : Stmt := top 6
theorem sc_is_whole : FnScope ["value"] ["value"] (defScope st_is_whole) := ⟨rfl, rfl, rfl, by decide +kernel, rfl, by decide +kernel, by decide +kernel⟩
abbrev pre_is_whole (a : PyData) (as : List Addr) : List (Option Tm) := [some (.dat (eD a))]
abbrev post_is_whole (r : Bool) (as : List Addr) : List (Option Tm) := [none]
abbrev ret_is_whole (r : Bool) : Tm := .dat (eB r)
abbrev st_whole_in : Stmt := top 7
theorem sc_whole_in : FnScope ["value", "low", "high"] ["value", "low", "high"] (defScope st_whole_in) := ⟨rfl, rfl, rfl, by decide +kernel, rfl, by decide +kernel, by decide +kernel⟩
abbrev pre_whole_in (a : (PyData × Int × Int)) (as : List Addr) : List (Option Tm) := [some (.dat (eD a.1)), some (.dat (eI a.2.1)), some (.dat (eI a.2.2))]
abbrev post_whole_in (r : Bool) (as : List Addr) : List (Option Tm) := [none, none, none]
abbrev ret_whole_in (r : Bool) : Tm := .dat (eB r)
abbrev st_each_once : Stmt := top 8
theorem sc_each_once : FnScope ["order", "many", "place"] ["order", "many"] (defScope st_each_once) := ⟨rfl, rfl, rfl, by decide +kernel, rfl, by decide +kernel, by decide +kernel⟩
abbrev pre_each_once (a : (PyData × Int)) (as : List Addr) : List (Option Tm) := [some (.dat (eD a.1)), some (.dat (eI a.2))]
abbrev post_each_once (r : Bool) (as : List Addr) : List (Option Tm) := [none, none]
abbrev ret_each_once (r : Bool) : Tm := .dat (eB r)
abbrev st_is_name : Stmt := top 14
theorem sc_is_name : FnScope ["value", "sign"] ["value"] (defScope st_is_name) := ⟨rfl, rfl, rfl, by decide +kernel, rfl, by decide +kernel, by decide +kernel⟩
abbrev pre_is_name (a : PyData) (as : List Addr) : List (Option Tm) := [some (.dat (eD a))]
abbrev post_is_name (r : Bool) (as : List Addr) : List (Option Tm) := [none]
abbrev ret_is_name (r : Bool) : Tm := .dat (eB r)
abbrev st_frame_rung_fits : Stmt := top 22
theorem sc_frame_rung_fits : FnScope ["rung", "name", "low", "high"] ["rung"] (defScope st_frame_rung_fits) := ⟨rfl, rfl, rfl, by decide +kernel, rfl, by decide +kernel, by decide +kernel⟩
abbrev pre_frame_rung_fits (a : PyData) (as : List Addr) : List (Option Tm) := [some (.dat (eD a))]
abbrev post_frame_rung_fits (r : Bool) (as : List Addr) : List (Option Tm) := [none]
abbrev ret_frame_rung_fits (r : Bool) : Tm := .dat (eB r)
abbrev st_check_frame : Stmt := top 17
theorem sc_check_frame : FnScope ["frame", "written", "place", "rung"] ["frame"] (defScope st_check_frame) := ⟨rfl, rfl, rfl, by decide +kernel, rfl, by decide +kernel, by decide +kernel⟩
abbrev pre_check_frame (a : PyData) (as : List Addr) : List (Option Tm) := [some (.dat (eD a))]
abbrev post_check_frame (r : Unit) (as : List Addr) : List (Option Tm) := [none]
abbrev ret_check_frame (r : Unit) : Tm := .dat eN
abbrev st_touching : Stmt := top 18
theorem sc_touching : FnScope ["frame", "many", "low", "high"] ["frame"] (defScope st_touching) := ⟨rfl, rfl, rfl, by decide +kernel, rfl, by decide +kernel, by decide +kernel⟩
abbrev pre_touching (a : PyData) (as : List Addr) : List (Option Tm) := [some (.dat (eD a))]
abbrev post_touching (r : (List (Int × Int))) (as : List Addr) : List (Option Tm) := [none]
abbrev ret_touching (r : (List (Int × Int))) : Tm := .dat ((eT eQ) r)
abbrev st_directed : Stmt := top 24
theorem sc_directed : FnScope ["frame", "order", "ranks", "at", "place", "pair"] ["frame", "order"] (defScope st_directed) := ⟨rfl, rfl, rfl, by decide +kernel, rfl, by decide +kernel, by decide +kernel⟩
abbrev pre_directed (a : (PyData × PyData)) (as : List Addr) : List (Option Tm) := [some (.dat (eD a.1)), some (.dat (eD a.2))]
abbrev post_directed (r : (List (Int × Int))) (as : List Addr) : List (Option Tm) := [none, none]
abbrev ret_directed (r : (List (Int × Int))) : Tm := .own none (.lst (List.map eQ r))
abbrev st_parted : Stmt := top 25
theorem sc_parted : FnScope ["frame", "order", "other", "left", "right"] ["frame", "order", "other"] (defScope st_parted) := ⟨rfl, rfl, rfl, by decide +kernel, rfl, by decide +kernel, by decide +kernel⟩
abbrev pre_parted (a : (PyData × PyData × PyData)) (as : List Addr) : List (Option Tm) := [some (.dat (eD a.1)), some (.dat (eD a.2.1)), some (.dat (eD a.2.2))]
abbrev post_parted (r : (Option (Int × Int))) (as : List Addr) : List (Option Tm) := [none, none, none]
abbrev ret_parted (r : (Option (Int × Int))) : Tm := .dat ((eO (eP2 eI eI)) r)
abbrev st_check_two_orders : Stmt := top 23
theorem sc_check_two_orders : FnScope ["frame", "order", "other"] ["frame", "order", "other"] (defScope st_check_two_orders) := ⟨rfl, rfl, rfl, by decide +kernel, rfl, by decide +kernel, by decide +kernel⟩
abbrev pre_check_two_orders (a : (PyData × PyData × PyData)) (as : List Addr) : List (Option Tm) := [some (.dat (eD a.1)), some (.dat (eD a.2.1)), some (.dat (eD a.2.2))]
abbrev post_check_two_orders (r : Unit) (as : List Addr) : List (Option Tm) := [none, none, none]
abbrev ret_check_two_orders (r : Unit) : Tm := .dat eN
abbrev st_same_for_all : Stmt := top 19
theorem sc_same_for_all : FnScope ["frame", "order", "other"] ["frame", "order", "other"] (defScope st_same_for_all) := ⟨rfl, rfl, rfl, by decide +kernel, rfl, by decide +kernel, by decide +kernel⟩
abbrev pre_same_for_all (a : (PyData × PyData × PyData)) (as : List Addr) : List (Option Tm) := [some (.dat (eD a.1)), some (.dat (eD a.2.1)), some (.dat (eD a.2.2))]
abbrev post_same_for_all (r : Bool) (as : List Addr) : List (Option Tm) := [none, none, none]
abbrev ret_same_for_all (r : Bool) : Tm := .dat (eB r)
abbrev st_swaps : Stmt := top 20
theorem sc_swaps : FnScope ["frame", "order", "other", "ranks", "found", "at", "place"] ["frame", "order", "other"] (defScope st_swaps) := ⟨rfl, rfl, rfl, by decide +kernel, rfl, by decide +kernel, by decide +kernel⟩
abbrev pre_swaps (a : (PyData × PyData × PyData)) (as : List Addr) : List (Option Tm) := [some (.dat (eD a.1)), some (.dat (eD a.2.1)), some (.dat (eD a.2.2))]
abbrev post_swaps (r : (Option (List Int))) (as : List Addr) : List (Option Tm) := [none, none, none]
abbrev ret_swaps (r : (Option (List Int))) : Tm := .dat ((eO (eT eI)) r)
abbrev st_directions : Stmt := top 21
theorem sc_directions : FnScope ["frame", "order"] ["frame", "order"] (defScope st_directions) := ⟨rfl, rfl, rfl, by decide +kernel, rfl, by decide +kernel, by decide +kernel⟩
abbrev pre_directions (a : (PyData × PyData)) (as : List Addr) : List (Option Tm) := [some (.dat (eD a.1)), some (.dat (eD a.2))]
abbrev post_directions (r : (List (Int × Int))) (as : List Addr) : List (Option Tm) := [none, none]
abbrev ret_directions (r : (List (Int × Int))) : Tm := .dat ((eT (eP2 eI eI)) r)
abbrev st_law_numbers : Stmt := top 27
theorem sc_law_numbers : FnScope ["script", "numbers", "place", "cell", "turned", "turn", "seed"] ["script"] (defScope st_law_numbers) := ⟨rfl, rfl, rfl, by decide +kernel, rfl, by decide +kernel, by decide +kernel⟩
abbrev pre_law_numbers (a : (List Int)) (as : List Addr) : List (Option Tm) := [some (.dat ((eL eI) a))]
abbrev post_law_numbers (r : (List Int)) (as : List Addr) : List (Option Tm) := [none]
abbrev ret_law_numbers (r : (List Int)) : Tm := .own none (.lst (List.map eI r))
abbrev st_law_draw : Stmt := top 28
theorem sc_law_draw : FnScope ["numbers", "many"] ["numbers", "many"] (defScope st_law_draw) := ⟨rfl, rfl, rfl, by decide +kernel, rfl, by decide +kernel, by decide +kernel⟩
abbrev pre_law_draw (a : ((List Int) × Int)) (as : List Addr) : List (Option Tm) := [some (.own (as[0]?) (.lst (List.map eI a.1))), some (.dat (eI a.2))]
abbrev post_law_draw (r : (Int × (List Int))) (as : List Addr) : List (Option Tm) := [some (.own (as[0]?) (.lst (List.map eI r.2))), none]
abbrev ret_law_draw (r : (Int × (List Int))) : Tm := .dat (eI r.1)
abbrev st_law_int : Stmt := top 29
theorem sc_law_int : FnScope ["value"] ["value"] (defScope st_law_int) := ⟨rfl, rfl, rfl, by decide +kernel, rfl, by decide +kernel, by decide +kernel⟩
abbrev pre_law_int (a : PyData) (as : List Addr) : List (Option Tm) := [some (.dat (eD a))]
abbrev post_law_int (r : Bool) (as : List Addr) : List (Option Tm) := [none]
abbrev ret_law_int (r : Bool) : Tm := .dat (eB r)
abbrev st_law_pool : Stmt := top 30
theorem sc_law_pool : FnScope ["numbers", "total", "letters", "pool", "k", "name", "word"] ["numbers", "total"] (defScope st_law_pool) := ⟨rfl, rfl, rfl, by decide +kernel, rfl, by decide +kernel, by decide +kernel⟩
abbrev pre_law_pool (a : ((List Int) × Int)) (as : List Addr) : List (Option Tm) := [some (.own (as[0]?) (.lst (List.map eI a.1))), some (.dat (eI a.2))]
abbrev post_law_pool (r : ((List Str) × (List Int))) (as : List Addr) : List (Option Tm) := [some (.own (as[0]?) (.lst (List.map eI r.2))), none]
abbrev ret_law_pool (r : ((List Str) × (List Int))) : Tm := .dat ((eL eS) r.1)
abbrev st_law_frame : Stmt := top 31
theorem sc_law_frame : FnScope ["numbers", "pool", "many", "dense", "frame", "k", "reads", "name"] ["numbers", "pool", "many"] (defScope st_law_frame) := ⟨rfl, rfl, rfl, by decide +kernel, rfl, by decide +kernel, by decide +kernel⟩
abbrev pre_law_frame (a : ((List Int) × (List Str) × Int)) (as : List Addr) : List (Option Tm) := [some (.own (as[0]?) (.lst (List.map eI a.1))), some (.dat ((eL eS) a.2.1)), some (.dat (eI a.2.2))]
abbrev post_law_frame (r : ((List ((List Str) × Str)) × (List Int))) (as : List Addr) : List (Option Tm) := [some (.own (as[0]?) (.lst (List.map eI r.2))), none, none]
abbrev ret_law_frame (r : ((List ((List Str) × Str)) × (List Int))) : Tm := .dat ((eT (eP2 (eT eS) eS)) r.1)
abbrev st_law_touch : Stmt := top 32
theorem sc_law_touch : FnScope ["frame", "low", "high"] ["frame", "low", "high"] (defScope st_law_touch) := ⟨rfl, rfl, rfl, by decide +kernel, rfl, by decide +kernel, by decide +kernel⟩
abbrev pre_law_touch (a : ((List ((List Str) × Str)) × Int × Int)) (as : List Addr) : List (Option Tm) := [some (.dat ((eT (eP2 (eT eS) eS)) a.1)), some (.dat (eI a.2.1)), some (.dat (eI a.2.2))]
abbrev post_law_touch (r : Bool) (as : List Addr) : List (Option Tm) := [none, none, none]
abbrev ret_law_touch (r : Bool) : Tm := .dat (eB r)
abbrev st_law_order : Stmt := top 33
theorem sc_law_order : FnScope ["numbers", "many", "left", "order", "turn"] ["numbers", "many"] (defScope st_law_order) := ⟨rfl, rfl, rfl, by decide +kernel, rfl, by decide +kernel, by decide +kernel⟩
abbrev pre_law_order (a : ((List Int) × Int)) (as : List Addr) : List (Option Tm) := [some (.own (as[0]?) (.lst (List.map eI a.1))), some (.dat (eI a.2))]
abbrev post_law_order (r : ((List Int) × (List Int))) (as : List Addr) : List (Option Tm) := [some (.own (as[0]?) (.lst (List.map eI r.2))), none]
abbrev ret_law_order (r : ((List Int) × (List Int))) : Tm := .dat ((eL eI) r.1)
abbrev st_law_led : Stmt := top 34
theorem sc_law_led : FnScope ["numbers", "frame", "order", "led", "turn", "k"] ["numbers", "frame", "order"] (defScope st_law_led) := ⟨rfl, rfl, rfl, by decide +kernel, rfl, by decide +kernel, by decide +kernel⟩
abbrev pre_law_led (a : ((List Int) × (List ((List Str) × Str)) × (List Int))) (as : List Addr) : List (Option Tm) := [some (.own (as[0]?) (.lst (List.map eI a.1))), some (.dat ((eT (eP2 (eT eS) eS)) a.2.1)), some (.dat ((eL eI) a.2.2))]
abbrev post_law_led (r : ((List Int) × (List Int))) (as : List Addr) : List (Option Tm) := [some (.own (as[0]?) (.lst (List.map eI r.2))), none, none]
abbrev ret_law_led (r : ((List Int) × (List Int))) : Tm := .dat ((eL eI) r.1)
abbrev st_law_unlike : Stmt := top 35
theorem sc_law_unlike : FnScope ["order", "other", "pairs", "low", "high"] ["order", "other"] (defScope st_law_unlike) := ⟨rfl, rfl, rfl, by decide +kernel, rfl, by decide +kernel, by decide +kernel⟩
abbrev pre_law_unlike (a : ((List Int) × (List Int))) (as : List Addr) : List (Option Tm) := [some (.dat ((eL eI) a.1)), some (.dat ((eL eI) a.2))]
abbrev post_law_unlike (r : (List (Int × Int))) (as : List Addr) : List (Option Tm) := [none, none]
abbrev ret_law_unlike (r : (List (Int × Int))) : Tm := .dat ((eL (eP2 eI eI)) r)
abbrev st_law_directions : Stmt := top 36
theorem sc_law_directions : FnScope ["frame", "order", "told", "low", "high"] ["frame", "order"] (defScope st_law_directions) := ⟨rfl, rfl, rfl, by decide +kernel, rfl, by decide +kernel, by decide +kernel⟩
abbrev pre_law_directions (a : ((List ((List Str) × Str)) × (List Int))) (as : List Addr) : List (Option Tm) := [some (.dat ((eT (eP2 (eT eS) eS)) a.1)), some (.dat ((eL eI) a.2))]
abbrev post_law_directions (r : (List (Int × Int))) (as : List Addr) : List (Option Tm) := [none, none]
abbrev ret_law_directions (r : (List (Int × Int))) : Tm := .dat ((eT (eP2 eI eI)) r)
abbrev st_law_swaps_right : Stmt := top 37
theorem sc_law_swaps_right : FnScope ["frame", "order", "other", "told", "unlike", "parted", "at", "k", "pair"] ["frame", "order", "other"] (defScope st_law_swaps_right) := ⟨rfl, rfl, rfl, by decide +kernel, rfl, by decide +kernel, by decide +kernel⟩
abbrev pre_law_swaps_right (a : ((List ((List Str) × Str)) × (List Int) × (List Int))) (as : List Addr) : List (Option Tm) := [some (.dat ((eT (eP2 (eT eS) eS)) a.1)), some (.dat ((eL eI) a.2.1)), some (.dat ((eL eI) a.2.2))]
abbrev post_law_swaps_right (r : Bool) (as : List Addr) : List (Option Tm) := [none, none, none]
abbrev ret_law_swaps_right (r : Bool) : Tm := .dat (eB r)
abbrev st_law_word : Stmt := top 38
theorem sc_law_word : FnScope ["turn", "frame", "order", "other", "told", "wrong"] ["turn", "frame", "order", "other"] (defScope st_law_word) := ⟨rfl, rfl, rfl, by decide +kernel, rfl, by decide +kernel, by decide +kernel⟩
abbrev pre_law_word (a : (Int × PyData × PyData × PyData)) (as : List Addr) : List (Option Tm) := [some (.dat (eI a.1)), some (.dat (eD a.2.1)), some (.dat (eD a.2.2.1)), some (.dat (eD a.2.2.2))]
abbrev post_law_word (r : PyData) (as : List Addr) : List (Option Tm) := [none, none, none, none]
abbrev ret_law_word (r : PyData) : Tm := .dat (eD r)
abbrev st_law_refused : Stmt := top 39
theorem sc_law_refused : FnScope ["pool", "frame", "order", "many", "bad", "turn", "twice", "k", "name"] ["pool", "frame", "order"] (defScope st_law_refused) := ⟨rfl, rfl, rfl, by decide +kernel, rfl, by decide +kernel, by decide +kernel⟩
abbrev pre_law_refused (a : ((List Str) × (List ((List Str) × Str)) × (List Int))) (as : List Addr) : List (Option Tm) := [some (.dat ((eL eS) a.1)), some (.dat ((eT (eP2 (eT eS) eS)) a.2.1)), some (.dat ((eL eI) a.2.2))]
abbrev post_law_refused (r : Bool) (as : List Addr) : List (Option Tm) := [none, none, none]
abbrev ret_law_refused (r : Bool) : Tm := .dat (eB r)
abbrev st_law : Stmt := top 40
theorem sc_law : FnScope ["script", "numbers", "pool", "many", "frame", "order", "led", "drawn", "around", "other", "first", "second"] ["script"] (defScope st_law) := ⟨rfl, rfl, rfl, by decide +kernel, rfl, by decide +kernel, by decide +kernel⟩
abbrev pre_law (a : (List Int)) (as : List Addr) : List (Option Tm) := [some (.dat ((eL eI) a))]
abbrev post_law (r : Bool) (as : List Addr) : List (Option Tm) := [none]
abbrev ret_law (r : Bool) : Tm := .dat (eB r)
abbrev sti_BadBook : Stmt := inClass (top 2) 0
theorem sci_BadBook : FnScope ["self", "word", "place"] ["self", "word", "place"] (defScope sti_BadBook) := ⟨rfl, rfl, rfl, by decide +kernel, rfl, by decide +kernel, by decide +kernel⟩
abbrev sti_BadNumber : Stmt := inClass (top 3) 0
theorem sci_BadNumber : FnScope ["self", "word"] ["self", "word"] (defScope sti_BadNumber) := ⟨rfl, rfl, rfl, by decide +kernel, rfl, by decide +kernel, by decide +kernel⟩
abbrev sti_TooMany : Stmt := inClass (top 4) 0
theorem sci_TooMany : FnScope ["self", "limit"] ["self", "limit"] (defScope sti_TooMany) := ⟨rfl, rfl, rfl, by decide +kernel, rfl, by decide +kernel, by decide +kernel⟩
structure Zs where
  f_is_whole : Addr
  d_is_whole : FuncData
  f_whole_in : Addr
  d_whole_in : FuncData
  f_each_once : Addr
  d_each_once : FuncData
  f_is_name : Addr
  d_is_name : FuncData
  f_frame_rung_fits : Addr
  d_frame_rung_fits : FuncData
  f_check_frame : Addr
  d_check_frame : FuncData
  f_touching : Addr
  d_touching : FuncData
  f_directed : Addr
  d_directed : FuncData
  f_parted : Addr
  d_parted : FuncData
  f_check_two_orders : Addr
  d_check_two_orders : FuncData
  f_same_for_all : Addr
  d_same_for_all : FuncData
  f_swaps : Addr
  d_swaps : FuncData
  f_directions : Addr
  d_directions : FuncData
  f_law_numbers : Addr
  d_law_numbers : FuncData
  f_law_draw : Addr
  d_law_draw : FuncData
  f_law_int : Addr
  d_law_int : FuncData
  f_law_pool : Addr
  d_law_pool : FuncData
  f_law_frame : Addr
  d_law_frame : FuncData
  f_law_touch : Addr
  d_law_touch : FuncData
  f_law_order : Addr
  d_law_order : FuncData
  f_law_led : Addr
  d_law_led : FuncData
  f_law_unlike : Addr
  d_law_unlike : FuncData
  f_law_directions : Addr
  d_law_directions : FuncData
  f_law_swaps_right : Addr
  d_law_swaps_right : FuncData
  f_law_word : Addr
  d_law_word : FuncData
  f_law_refused : Addr
  d_law_refused : FuncData
  f_law : Addr
  d_law : FuncData
  c_BadBook : Addr
  i_BadBook : Addr
  j_BadBook : FuncData
  c_BadNumber : Addr
  i_BadNumber : Addr
  j_BadNumber : FuncData
  c_RungsError : Addr
  c_TooMany : Addr
  i_TooMany : Addr
  j_TooMany : FuncData
  ec : Str → Addr
  t_KEPT_WORDS : Addr
structure Txt (K : PySem.W.Frag) (mg : Str → Option Value) (Z : Zs) : Prop where
  z_bool : mg "bool" = none
  z_enumerate : mg "enumerate" = none
  z_int : mg "int" = none
  z_isinstance : mg "isinstance" = none
  z_len : mg "len" = none
  z_list : mg "list" = none
  z_max : mg "max" = none
  z_min : mg "min" = none
  z_range : mg "range" = none
  z_set : mg "set" = none
  z_sorted : mg "sorted" = none
  z_str : mg "str" = none
  z_tuple : mg "tuple" = none
  z_zip : mg "zip" = none
  k_LETTERS : ∃ u, mg "LETTERS" = some u ∧ RelV (.str "abcdefghijklmnopqrstuvwxyz") u
  k_LONGEST : ∃ u, mg "LONGEST" = some u ∧ RelV (.int 40) u
  k_MOST_FRAMED : ∃ u, mg "MOST_FRAMED" = some u ∧ RelV (.int 8) u
  k_NAME_SIGNS : ∃ u, mg "NAME_SIGNS" = some u ∧ RelV (.str "abcdefghijklmnopqrstuvwxyz0123456789.") u
  k_KEPT_WORDS : ∃ u, mg "KEPT_WORDS" = some u ∧ RelV (.ref Z.t_KEPT_WORDS) u
  t_KEPT_WORDS : ∀ H, SqT K H Z.t_KEPT_WORDS ([("not" : Str), ("and" : Str), ("or" : Str), ("rise" : Str), ("fall" : Str)].map V.str)
  d_is_whole : Df K mg "_is_whole" st_is_whole Z.f_is_whole Z.d_is_whole ["value"]
  d_whole_in : Df K mg "_whole_in" st_whole_in Z.f_whole_in Z.d_whole_in ["value", "low", "high"]
  d_each_once : Df K mg "_each_once" st_each_once Z.f_each_once Z.d_each_once ["order", "many"]
  d_is_name : Df K mg "is_name" st_is_name Z.f_is_name Z.d_is_name ["value"]
  d_frame_rung_fits : Df K mg "_frame_rung_fits" st_frame_rung_fits Z.f_frame_rung_fits Z.d_frame_rung_fits ["rung"]
  d_check_frame : Df K mg "check_frame" st_check_frame Z.f_check_frame Z.d_check_frame ["frame"]
  d_touching : Df K mg "touching" st_touching Z.f_touching Z.d_touching ["frame"]
  d_directed : Df K mg "_directed" st_directed Z.f_directed Z.d_directed ["frame", "order"]
  d_parted : Df K mg "_parted" st_parted Z.f_parted Z.d_parted ["frame", "order", "other"]
  d_check_two_orders : Df K mg "_check_two_orders" st_check_two_orders Z.f_check_two_orders Z.d_check_two_orders ["frame", "order", "other"]
  d_same_for_all : Df K mg "same_for_all" st_same_for_all Z.f_same_for_all Z.d_same_for_all ["frame", "order", "other"]
  d_swaps : Df K mg "swaps" st_swaps Z.f_swaps Z.d_swaps ["frame", "order", "other"]
  d_directions : Df K mg "directions" st_directions Z.f_directions Z.d_directions ["frame", "order"]
  d_law_numbers : Df K mg "_law_numbers" st_law_numbers Z.f_law_numbers Z.d_law_numbers ["script"]
  d_law_draw : Df K mg "_law_draw" st_law_draw Z.f_law_draw Z.d_law_draw ["numbers", "many"]
  d_law_int : Df K mg "_law_int" st_law_int Z.f_law_int Z.d_law_int ["value"]
  d_law_pool : Df K mg "_law_pool" st_law_pool Z.f_law_pool Z.d_law_pool ["numbers", "total"]
  d_law_frame : Df K mg "_law_frame" st_law_frame Z.f_law_frame Z.d_law_frame ["numbers", "pool", "many"]
  d_law_touch : Df K mg "_law_touch" st_law_touch Z.f_law_touch Z.d_law_touch ["frame", "low", "high"]
  d_law_order : Df K mg "_law_order" st_law_order Z.f_law_order Z.d_law_order ["numbers", "many"]
  d_law_led : Df K mg "_law_led" st_law_led Z.f_law_led Z.d_law_led ["numbers", "frame", "order"]
  d_law_unlike : Df K mg "_law_unlike" st_law_unlike Z.f_law_unlike Z.d_law_unlike ["order", "other"]
  d_law_directions : Df K mg "_law_directions" st_law_directions Z.f_law_directions Z.d_law_directions ["frame", "order"]
  d_law_swaps_right : Df K mg "_law_swaps_right" st_law_swaps_right Z.f_law_swaps_right Z.d_law_swaps_right ["frame", "order", "other"]
  d_law_word : Df K mg "_law_word" st_law_word Z.f_law_word Z.d_law_word ["turn", "frame", "order", "other"]
  d_law_refused : Df K mg "_law_refused" st_law_refused Z.f_law_refused Z.d_law_refused ["pool", "frame", "order"]
  d_law : Df K mg "law" st_law Z.f_law Z.d_law ["script"]
  x_BadBook : Ex1 K mg "BadBook" "BadBook.__init__" ["word", "place"] sti_BadBook Z.c_BadBook Z.i_BadBook Z.j_BadBook
  ec_BadBook : Z.ec "BadBook" = Z.c_BadBook
  x_BadNumber : Ex1 K mg "BadNumber" "BadNumber.__init__" ["word"] sti_BadNumber Z.c_BadNumber Z.i_BadNumber Z.j_BadNumber
  ec_BadNumber : Z.ec "BadNumber" = Z.c_BadNumber
  g_RungsError : mg "RungsError" = some (.ref Z.c_RungsError)
  ec_RungsError : Z.ec "RungsError" = Z.c_RungsError
  x_TooMany : Ex1 K mg "TooMany" "TooMany.__init__" ["limit"] sti_TooMany Z.c_TooMany Z.i_TooMany Z.j_TooMany
  ec_TooMany : Z.ec "TooMany" = Z.c_TooMany
  sub_BadBook : ∀ nm r, sub_BadBook nm = some r → PySem.W.exmOne K (.ref (Z.ec nm)) (.ref Z.c_BadBook) = some r
  sub_BadNumber : ∀ nm r, sub_BadNumber nm = some r → PySem.W.exmOne K (.ref (Z.ec nm)) (.ref Z.c_BadNumber) = some r
  sub_RungsError : ∀ nm r, sub_RungsError nm = some r → PySem.W.exmOne K (.ref (Z.ec nm)) (.ref Z.c_RungsError) = some r
  sub_TooMany : ∀ nm r, sub_TooMany nm = some r → PySem.W.exmOne K (.ref (Z.ec nm)) (.ref Z.c_TooMany) = some r
section
variable {P : Program} {w : World} {K : PySem.W.Frag} {mg : Str → Option Value} {base : Heap} {Z : Zs}
theorem ini_BadBook (T : Txt K mg Z) : FnOk P w K mg base (L2.CX P w) 1 Z.i_BadBook Z.j_BadBook ["self", "word", "place"] (spIni2 K "word" "place") :=
  T.x_BadBook.F.okX sci_BadBook (fun vs H Q E h => by obtain ⟨a, C, y, z, e, _⟩ := h; rw [e]; rfl) fun cdv A outer s H vs Q E hr h => ⟨_, pss_cons (ps_ost (pv 0) (pv 1)) (pss_cons (ps_ost (pv 0) (pv 2)) pss_nil), ini2_ok rfl (fun a y z e => by subst e; exact ⟨rfl, rfl, rfl⟩) h⟩
theorem ini_BadNumber (T : Txt K mg Z) : FnOk P w K mg base (L2.CX P w) 1 Z.i_BadNumber Z.j_BadNumber ["self", "word"] (spIni1 K "word") :=
  T.x_BadNumber.F.okX sci_BadNumber (fun vs H Q E h => by obtain ⟨a, C, y, e, _⟩ := h; rw [e]; rfl) fun cdv A outer s H vs Q E hr h => ⟨_, pss_cons (ps_ost (pv 0) (pv 1)) pss_nil, ini1_ok rfl (fun a y e => by subst e; exact ⟨rfl, rfl⟩) h⟩
theorem ini_TooMany (T : Txt K mg Z) : FnOk P w K mg base (L2.CX P w) 1 Z.i_TooMany Z.j_TooMany ["self", "limit"] (spIni1 K "limit") :=
  T.x_TooMany.F.okX sci_TooMany (fun vs H Q E h => by obtain ⟨a, C, y, e, _⟩ := h; rw [e]; rfl) fun cdv A outer s H vs Q E hr h => ⟨_, pss_cons (ps_ost (pv 0) (pv 1)) pss_nil, ini1_ok rfl (fun a y e => by subst e; exact ⟨rfl, rfl⟩) h⟩
theorem ok_is_whole (T : Txt K mg Z) : FnOk P w K mg base (L2.CX P w) 1 Z.f_is_whole Z.d_is_whole ["value"] (Spec K Z.ec 1 pre_is_whole f_is_whole post_is_whole ret_is_whole) := by
  refine fn_ok T.d_is_whole.F sc_is_whole rfl m_is_whole fun cdv A outer s H E hr => ?_
  refine ⟨_, (pss_cons (ps_ret (pe_and (pe_callB (r := rIsi K) call_isi (by rfl) T.z_isinstance (by decide +kernel) (pa_cons (pv 0) (pa_cons (pe_bltn (v := .ty "int") (u := .type "int") (by rfl) T.z_int (by decide +kernel) rfl) pa_nil))) (pe_one (pe_not (pe_callB (r := rIsi K) call_isi (by rfl) T.z_isinstance (by decide +kernel) (pa_cons (pv 0) (pa_cons (pe_bltn (v := .ty "bool") (u := .type "bool") (by rfl) T.z_bool (by decide +kernel) rfl) pa_nil)))))))
  pss_nil), ?_⟩
  intro a as _
  change BJ K _ [some (.dat (eD a))] _ _ _ _ _
  refine fun g σ H D hA hm => x_ret ?_
  refine (ev_andV (ev_isi (d := a) .int (ev_var rfl) dpt_d) (ev_notV (ev_isi (d := a) .bool (ev_var rfl) dpt_d))) _ _ _ _ _ hA fun v H hA => ?_
  exact hm v H _ (hA.weak1 (.d .nil) fun j z => nomatch z)
theorem ok_whole_in (T : Txt K mg Z) : FnOk P w K mg base (L2.CX P w) 2 Z.f_whole_in Z.d_whole_in ["value", "low", "high"] (Spec K Z.ec 3 pre_whole_in f_whole_in post_whole_in ret_whole_in) := by
  refine fn_ok T.d_whole_in.F sc_whole_in rfl m_whole_in fun cdv A outer s H E hr => ?_
  refine ⟨_, (pss_cons (ps_ret (pe_and (pe_callS (ok_is_whole (K := K) T) (hr.mono (by decide)) (by rfl) T.d_is_whole.g T.d_is_whole.F.kp T.d_is_whole.b (fun σ => passAt (takes_of rfl rfl rfl rfl) σ) (pa_cons (pv 0) pa_nil)) (pe_one (pe_chain op_le op_le (pv 1) (pv 0) (pv 2)))))
  pss_nil), ?_⟩
  intro a as _
  change BJ K _ [some (.dat (eD a.1)), some (.dat (eI a.2.1)), some (.dat (eI a.2.2))] _ _ _ _ _
  refine fun g σ H D hA hm => x_ret ?_
  refine f_joinV (fun (s : Bool) => [some (.dat (eD a.1)), some (.dat (eI a.2.1)), some (.dat (eI a.2.2))]) (fun s => .dat (eB s)) hA hm (fun hm => ?_) (fun j1 v H hA hm => ?_)
  ·
    refine x_andV ?_
    refine x_call1 ?_
    refine (ev_var rfl) _ _ _ _ _ hA fun v H hA => ?_
    refine f_call [.d (eD a.1)] a.1 (fun r => []) hA rfl rfl True.intro (fun as h => match as, h with | [], _ => rfl) (fun _ => rfl) (fun r as h => match as, h with | [], _ => rfl) (fun r j z => nomatch z) .nil (hm.bindR.imp (fun r2 hm v H hA => ?_) fun _ q => q)
    refine f_tst (P := fun c H1 => _) hA fun hA => ?_
    refine f_pick hm (fun hm => ?_) (fun hm => ?_)
    ·
      refine x_chain ?_
      refine (ev_var rfl) _ _ _ _ _ hA fun v H hA => ?_
      refine (ev_var rfl) _ _ _ _ _ hA fun v H hA => ?_
      refine f_int hA hm fun t3 hA hm => ?_
      refine f_chain (ev_var rfl) hA fun v H hA => ?_
      exact hm v H hA
    ·
      exact hm _ H (hA.scal fun _ => rfl)
  ·
    replace hA : At K g [some (.dat (eD a.1)), some (.dat (eI a.2.1)), some (.dat (eI a.2.2))] _ _ _ := hA
    exact hm v H _ (hA.weak1 (.d (.d (.d .nil))) fun j z => nomatch z)
theorem ok_each_once (T : Txt K mg Z) : FnOk P w K mg base (L2.CX P w) 3 Z.f_each_once Z.d_each_once ["order", "many"] (Spec K Z.ec 2 pre_each_once f_each_once post_each_once ret_each_once) := by
  refine fn_ok T.d_each_once.F sc_each_once rfl m_each_once fun cdv A outer s H E hr => ?_
  refine ⟨_, (pss_cons (ps_if (pw_or (pt_not (pt_val (pe_callB (r := rIsiT K) call_isiT (by rfl) T.z_isinstance (by decide +kernel) (pa_cons (pv 0) (pa_cons (pe_tup (pa_cons (pe_bltn (v := .ty "list") (u := .type "list") (by rfl) T.z_list (by decide +kernel) rfl) (pa_cons (pe_bltn (v := .ty "tuple") (u := .type "tuple") (by rfl) T.z_tuple (by decide +kernel) rfl) pa_nil))) pa_nil))))) (pw_or1 (pt_cmpR op_ne (pe_callB (r := Gv.rLen K) c_len (by rfl) T.z_len (by decide +kernel) (pa_cons (pv 0) pa_nil)) (pv 1) (nomark _)))).pt (pss_cons (ps_ret pe_bl)
  pss_nil) pss_nil)
  (pss_cons (ps_for (passes_of rfl) rfl (pi_seqV (pv 0)) (pg_name (i := 2) sc_each_once.nd rfl (Or.inl rfl)) (pss_cons (ps_if (pt_not (pt_val (pe_callS (ok_whole_in (K := K) T) (hr.mono (by decide)) (by rfl) T.d_whole_in.g T.d_whole_in.F.kp T.d_whole_in.b (fun σ => passAt (takes_of rfl rfl rfl rfl) σ) (pa_cons (pv 2) (pa_cons pe_int (pa_cons (pe_op op_sub (pv 1) pe_int) pa_nil)))))) (pss_cons (ps_ret pe_bl)
  pss_nil) pss_nil)
  pss_nil))
  (pss_cons (ps_ret (pe_cmpR op_eq (pe_lenSetV rfl (by rfl) T.z_len (by rfl) T.z_set (pv 0)) (pv 1) (nomark _)))
  pss_nil))), ?_⟩
  intro a as _
  change BJ K _ [some (.dat (eD a.1)), some (.dat (eI a.2)), none] _ _ _ _ _
  refine fun g σ H D hA hm => x_ifS ?_
  refine f_joinT (fun (s : Bool) => [some (.dat (eD a.1)), some (.dat (eI a.2)), none]) (fun s => s) hA hm (fun hm => ?_) (fun j1 H hA hm => ?_)
  ·
    refine x_orT ?_
    refine (evb_not (evb_B (ev_isiT (d := a.1) .list .tuple (ev_var rfl) dpt_d))) _ _ _ _ _ hA fun H hA => ?_
    refine f_pick hm (fun hm => ?_) (fun hm => ?_)
    ·
      exact hm H hA
    ·
      refine x_test ?_
      refine x_op ?_
      refine x_cb1 ?_
      refine (ev_var rfl) _ _ _ _ _ hA fun v H hA => ?_
      refine f_o1m o1_lenD hA hm fun t2 v H hA hm => ?_
      refine (ev_var rfl) _ _ _ _ _ hA fun v H hA => ?_
      refine o2_neI _ _ _ _ _ _ _ hA fun v H hA => ?_
      refine f_tst (P := fun c H1 => _) hA fun hA => ?_
      exact hm H hA
  ·
    replace hA : At K g [some (.dat (eD a.1)), some (.dat (eI a.2)), none] _ _ _ := hA
    refine f_ifS hm (fun hm => ?_) (fun hm => ?_)
    ·
      refine bj_go hA hm ?_
      change BJ K _ [some (.dat (eD a.1)), some (.dat (eI a.2)), none] _ _ _ _ _
      refine bj_assoc ?_
      refine fun g σ H D hA hm => x_ret ?_
      refine ev_bl _ _ _ _ _ hA fun v H hA => ?_
      exact hm v H _ (hA.weak1 (.d (.d .nil)) fun j z => nomatch z)
    ·
      refine bj_go hA hm ?_
      change BJ K _ [some (.dat (eD a.1)), some (.dat (eI a.2)), none] _ _ _ _ _
      refine bj_pass ?_
      refine fun g σ H D hA hm => ?_
      refine x_forD ?_
      refine (ev_var rfl) _ _ _ _ _ hA fun v H hA => ?_
      refine wk_seq hA hm fun l3 hm => f_for (e := eD) (fun (s4 : Unit) => [some (.dat (eD a.1)), some (.dat (eI a.2)), none]) (s0 := ()) (.s (.s (.d .nil))) hm (hb_of (e := eD) (js := [2]) (ps := fun b5 => [eD b5]) (fun b => tj_name) (hjl (n := 3) (fun s => rfl) (by decide)) (fun s4 b5 => ?_)) (fun s4 => ?_)
      ·
        change BJ K _ [some (.dat (eD a.1)), some (.dat (eI a.2)), some (.dat (eD b5))] _ _ _ _ _
        refine fun g σ H D hA hm => x_ifS ?_
        refine x_not ?_
        refine x_B ?_
        refine x_call3 ?_
        refine (ev_var rfl) _ _ _ _ _ hA fun v H hA => ?_
        refine ev_int _ _ _ _ _ hA fun v H hA => ?_
        refine (ev_op (ev_var rfl) ev_int o2_i0) _ _ _ _ _ hA fun v H hA => ?_
        refine f_call [.d (eD b5), .d (eI (0 : Int)), .d (eI (a.2 - (1 : Int)))] (b5, (0 : Int), (a.2 - (1 : Int))) (fun r => []) hA rfl rfl True.intro (fun as h => match as, h with | [], _ => rfl) (fun _ => rfl) (fun r as h => match as, h with | [], _ => rfl) (fun r j z => nomatch z) .nil (hm.bindR.imp (fun r6 hm v H hA => ?_) fun _ q => q)
        refine f_tst (P := fun c H1 => _) hA fun hA => ?_
        refine f_ifS hm (fun hm => ?_) (fun hm => ?_)
        ·
          refine bj_go hA hm ?_
          change BJ K _ [some (.dat (eD a.1)), some (.dat (eI a.2)), some (.dat (eD b5))] _ _ _ _ _
          refine bj_assoc ?_
          refine fun g σ H D hA hm => x_ret ?_
          refine ev_bl _ _ _ _ _ hA fun v H hA => ?_
          exact hm v H _ (hA.weak1 (.d (.d .nil)) fun j z => nomatch z)
        ·
          refine bj_go hA hm ?_
          change BJ K _ [some (.dat (eD a.1)), some (.dat (eI a.2)), some (.dat (eD b5))] _ _ _ _ _
          refine bj_pass ?_
          exact bj_nx (a := ()) (.s (.s (.d .nil)))
      ·
        change BJ K _ [some (.dat (eD a.1)), some (.dat (eI a.2)), none] _ _ _ _ _
        refine fun g σ H D hA hm => x_ret ?_
        refine x_op ?_
        refine x_lenSet ?_
        refine (ev_var rfl) _ _ _ _ _ hA fun v H hA => ?_
        refine f_lenSet hA hm fun t7 v H hA hm => ?_
        refine (ev_var rfl) _ _ _ _ _ hA fun v H hA => ?_
        refine o2_eqI _ _ _ _ _ _ _ hA fun v H hA => ?_
        exact hm v H _ (hA.weak1 (.d (.d .nil)) fun j z => nomatch z)
theorem ok_is_name (T : Txt K mg Z) : FnOk P w K mg base (L2.CX P w) 1 Z.f_is_name Z.d_is_name ["value"] (Spec K Z.ec 1 pre_is_name f_is_name post_is_name ret_is_name) := by
  refine fn_ok T.d_is_name.F sc_is_name rfl m_is_name fun cdv A outer s H E hr => ?_
  refine ⟨_, (pss_cons (ps_if (pw_or (pt_not (pt_val (pe_callB (r := rIsi K) call_isi (by rfl) T.z_isinstance (by decide +kernel) (pa_cons (pv 0) (pa_cons (pe_bltn (v := .ty "str") (u := .type "str") (by rfl) T.z_str (by decide +kernel) rfl) pa_nil))))) (pw_or (pt_cmpR op_lt (pe_callB c_lenS (by rfl) T.z_len (by decide +kernel) (pa_cons (pv 0) pa_nil)) pe_int (nomark _)) (pw_or (pt_cmpR op_gt (pe_callB c_lenS (by rfl) T.z_len (by decide +kernel) (pa_cons (pv 0) pa_nil)) (pe_gk (by rfl) T.k_LONGEST) (nomark _)) (pw_or1 (pt_cmpR (r := rIn K false) op_in_seq (pv 0) (pe_gk (by rfl) T.k_KEPT_WORDS) rfl))))).pt (pss_cons (ps_ret pe_bl)
  pss_nil) pss_nil)
  (pss_cons (ps_for (passes_of rfl) rfl (pi_str (pv 0)) (pg_name (i := 1) sc_is_name.nd rfl (Or.inl rfl)) (pss_cons (ps_if (pt_cmpR p_ninSg (pv 1) (pe_gk (by rfl) T.k_NAME_SIGNS) rfl) (pss_cons (ps_ret pe_bl)
  pss_nil) pss_nil)
  pss_nil))
  (pss_cons (ps_ret (pe_and (pe_cmpR p_inSg (pe_ix ix_str (pv 0) pe_int (fun _ _ => rfl)) (pe_gk (by rfl) T.k_LETTERS) rfl) (pe_one (pe_cmpR op_ne (pe_ix ix_str (pv 0) (pe_un un_neg pe_int) (fun _ _ => rfl)) pe_str (nomark _)))))
  pss_nil))), ?_⟩
  intro a as _
  change BJ K _ [some (.dat (eD a)), none] _ _ _ _ _
  refine fun g σ H D hA hm => x_ifS ?_
  refine f_joinT (fun (s : Bool) => [some (.dat (eD a)), none]) (fun s => s) hA hm (fun hm => ?_) (fun j1 H hA hm => ?_)
  ·
    refine x_orT ?_
    refine (evb_not (evb_B (ev_isi (d := a) .str (ev_var rfl) dpt_d))) _ _ _ _ _ hA fun H hA => ?_
    refine f_pick hm (fun hm => ?_) (fun hm => ?_)
    ·
      exact hm H hA
    ·
      refine x_orT ?_
      refine x_test ?_
      refine x_op ?_
      refine x_cb1 ?_
      refine (ev_var rfl) _ _ _ _ _ hA fun v H hA => ?_
      refine f_str hA hm fun t2 hA hm => ?_
      refine f_o1m o1_lenS hA hm fun t3 v H hA hm => ?_
      refine ev_int _ _ _ _ _ hA fun v H hA => ?_
      refine o2_c0 _ _ _ _ _ _ _ hA fun v H hA => ?_
      refine f_tst (P := fun c H1 => _) hA fun hA => ?_
      refine f_pick hm (fun hm => ?_) (fun hm => ?_)
      ·
        exact hm H hA
      ·
        refine x_orT ?_
        refine x_test ?_
        refine x_op ?_
        refine x_cb1 ?_
        refine (ev_var rfl) _ _ _ _ _ hA fun v H hA => ?_
        refine f_str hA hm fun t4 hA hm => ?_
        refine f_o1m o1_lenS hA hm fun t5 v H hA hm => ?_
        refine ev_int _ _ _ _ _ hA fun v H hA => ?_
        refine o2_c0 _ _ _ _ _ _ _ hA fun v H hA => ?_
        refine f_tst (P := fun c H1 => _) hA fun hA => ?_
        refine f_pick hm (fun hm => ?_) (fun hm => ?_)
        ·
          exact hm H hA
        ·
          refine x_test ?_
          refine x_op ?_
          refine (ev_var rfl) _ _ _ _ _ hA fun v H hA => ?_
          refine (ev_gtup T.t_KEPT_WORDS) _ _ _ _ _ hA fun v H hA => ?_
          refine f_str1 hA hm fun t6 hA hm => ?_
          refine (o2_inS (xs := [("not" : Str), ("and" : Str), ("or" : Str), ("rise" : Str), ("fall" : Str)]) .t) _ _ _ _ _ _ _ hA fun v H hA => ?_
          refine f_tst (P := fun c H1 => _) hA fun hA => ?_
          exact hm H hA
  ·
    replace hA : At K g [some (.dat (eD a)), none] _ _ _ := hA
    refine f_ifS hm (fun hm => ?_) (fun hm => ?_)
    ·
      refine bj_go hA hm ?_
      change BJ K _ [some (.dat (eD a)), none] _ _ _ _ _
      refine bj_assoc ?_
      refine fun g σ H D hA hm => x_ret ?_
      refine ev_bl _ _ _ _ _ hA fun v H hA => ?_
      exact hm v H _ (hA.weak1 (.d .nil) fun j z => nomatch z)
    ·
      refine bj_go hA hm ?_
      change BJ K _ [some (.dat (eD a)), none] _ _ _ _ _
      refine bj_pass ?_
      refine fun g σ H D hA hm => ?_
      refine x_forS ?_
      refine (ev_var rfl) _ _ _ _ _ hA fun v H hA => ?_
      refine f_str hA hm fun t7 hA hm => ?_
      refine wk_str hA (f_for (e := eS) (fun (s8 : Unit) => [some (.dat (eD a)), none]) (s0 := ()) (.s (.d .nil)) hm (hb_of (e := eS) (js := [1]) (ps := fun b9 => [eS b9]) (fun b => tj_name) (hjl (n := 2) (fun s => rfl) (by decide)) (fun s8 b9 => ?_)) (fun s8 => ?_))
      ·
        change BJ K _ [some (.dat (eD a)), some (.dat (eS b9))] _ _ _ _ _
        refine fun g σ H D hA hm => x_ifS ?_
        refine x_test ?_
        refine x_op ?_
        refine (ev_var rfl) _ _ _ _ _ hA fun v H hA => ?_
        refine ev_str _ _ _ _ _ hA fun v H hA => ?_
        refine f_o2m o2_ninSg hA hm fun t10 v H hA hm => ?_
        refine f_tst (P := fun c H1 => _) hA fun hA => ?_
        refine f_ifS hm (fun hm => ?_) (fun hm => ?_)
        ·
          refine bj_go hA hm ?_
          change BJ K _ [some (.dat (eD a)), some (.dat (eS b9))] _ _ _ _ _
          refine bj_assoc ?_
          refine fun g σ H D hA hm => x_ret ?_
          refine ev_bl _ _ _ _ _ hA fun v H hA => ?_
          exact hm v H _ (hA.weak1 (.d .nil) fun j z => nomatch z)
        ·
          refine bj_go hA hm ?_
          change BJ K _ [some (.dat (eD a)), some (.dat (eS b9))] _ _ _ _ _
          refine bj_pass ?_
          exact bj_nx (a := ()) (.s (.d .nil))
      ·
        change BJ K _ [some (.dat (eD a)), none] _ _ _ _ _
        refine fun g σ H D hA hm => x_ret ?_
        refine f_joinV (fun (s : Bool) => [some (.dat (eD a)), none]) (fun s => .dat (eB s)) hA hm (fun hm => ?_) (fun j11 v H hA hm => ?_)
        ·
          refine x_andV ?_
          refine x_op ?_
          refine x_op ?_
          refine (ev_var rfl) _ _ _ _ _ hA fun v H hA => ?_
          refine f_str hA hm fun t12 hA hm => ?_
          refine ev_int _ _ _ _ _ hA fun v H hA => ?_
          refine f_o2m o2_chS hA hm fun t13 v H hA hm => ?_
          refine ev_str _ _ _ _ _ hA fun v H hA => ?_
          refine f_o2m o2_inSg hA hm fun t14 v H hA hm => ?_
          refine f_tst (P := fun c H1 => _) hA fun hA => ?_
          refine f_pick hm (fun hm => ?_) (fun hm => ?_)
          ·
            refine x_op ?_
            refine x_op ?_
            refine (ev_var rfl) _ _ _ _ _ hA fun v H hA => ?_
            refine f_str hA hm fun t15 hA hm => ?_
            refine (ev_un ev_int o1_neg) _ _ _ _ _ hA fun v H hA => ?_
            refine f_o2m o2_chS hA hm fun t16 v H hA hm => ?_
            refine ev_str _ _ _ _ _ hA fun v H hA => ?_
            refine o2_neS _ _ _ _ _ _ _ hA fun v H hA => ?_
            exact hm v H hA
          ·
            exact hm _ H (hA.scal fun _ => rfl)
        ·
          replace hA : At K g [some (.dat (eD a)), none] _ _ _ := hA
          exact hm v H _ (hA.weak1 (.d .nil) fun j z => nomatch z)
theorem ok_frame_rung_fits (T : Txt K mg Z) : FnOk P w K mg base (L2.CX P w) 2 Z.f_frame_rung_fits Z.d_frame_rung_fits ["rung"] (Spec K Z.ec 1 pre_frame_rung_fits f_frame_rung_fits post_frame_rung_fits ret_frame_rung_fits) := by
  refine fn_ok T.d_frame_rung_fits.F sc_frame_rung_fits rfl m_frame_rung_fits fun cdv A outer s H E hr => ?_
  refine ⟨_, (pss_cons (ps_if (pw_or (pt_not (pt_val (pe_callB (r := rIsi K) call_isi (by rfl) T.z_isinstance (by decide +kernel) (pa_cons (pv 0) (pa_cons (pe_bltn (v := .ty "tuple") (u := .type "tuple") (by rfl) T.z_tuple (by decide +kernel) rfl) pa_nil))))) (pw_or (pt_cmpR op_ne (pe_callB (r := Gv.rLen K) c_len (by rfl) T.z_len (by decide +kernel) (pa_cons (pv 0) pa_nil)) pe_int (nomark _)) (pw_or1 (pt_not (pt_val (pe_callB (r := rIsi K) call_isi (by rfl) T.z_isinstance (by decide +kernel) (pa_cons (pe_ix (r := rIxQ K) ix_q (pv 0) pe_int (fun _ _ => rfl)) (pa_cons (pe_bltn (v := .ty "tuple") (u := .type "tuple") (by rfl) T.z_tuple (by decide +kernel) rfl) pa_nil)))))))).pt (pss_cons (ps_ret pe_bl)
  pss_nil) pss_nil)
  (pss_cons (ps_for (passes_of rfl) rfl (pi_tup (pe_op (r := rCatA K) op_catA (pe_ix (r := rIxQ K) ix_q (pv 0) pe_int (fun _ _ => rfl)) (pe_tup (pa_cons (pe_ix (r := rIxQ K) ix_q (pv 0) pe_int (fun _ _ => rfl)) pa_nil)))) (pg_name (i := 1) sc_frame_rung_fits.nd rfl (Or.inl rfl)) (pss_cons (ps_if (pt_not (pt_val (pe_callS (ok_is_name (K := K) T) (hr.mono (by decide)) (by rfl) T.d_is_name.g T.d_is_name.F.kp T.d_is_name.b (fun σ => passAt (takes_of rfl rfl rfl rfl) σ) (pa_cons (pv 1) pa_nil)))) (pss_cons (ps_ret pe_bl)
  pss_nil) pss_nil)
  pss_nil))
  (pss_cons (ps_for (passes_of rfl) rfl (RZ.pi_zipA (by rfl) T.z_zip (pa_cons (pe_ix (r := rIxQ K) ix_q (pv 0) pe_int (fun _ _ => rfl)) (pa_cons (pe_slice (r := rSlQ K) (sl_q rfl) (pe_ix (r := rIxQ K) ix_q (pv 0) pe_int (fun _ _ => rfl)) (po_some pe_int) po_none) pa_nil))) (pg_tup rfl (pgs_cons (pg_name (i := 2) sc_frame_rung_fits.nd rfl (Or.inl rfl)) (pgs_cons (pg_name (i := 3) sc_frame_rung_fits.nd rfl (Or.inl rfl)) pgs_nil))) (pss_cons (ps_if (pt_cmpR p_geS (pv 2) (pv 3) (nomark _)) (pss_cons (ps_ret pe_bl)
  pss_nil) pss_nil)
  pss_nil))
  (pss_cons (ps_ret pe_bl)
  pss_nil)))), ?_⟩
  intro a as _
  change BJ K _ [some (.dat (eD a)), none, none, none] _ _ _ _ _
  refine fun g σ H D hA hm => x_ifS ?_
  refine f_joinT (fun (s : Bool) => [some (.dat (eD a)), none, none, none]) (fun s => s) hA hm (fun hm => ?_) (fun j1 H hA hm => ?_)
  ·
    refine x_orT ?_
    refine (evb_not (evb_B (ev_isi (d := a) .tuple (ev_var rfl) dpt_d))) _ _ _ _ _ hA fun H hA => ?_
    refine f_pick hm (fun hm => ?_) (fun hm => ?_)
    ·
      exact hm H hA
    ·
      refine x_orT ?_
      refine x_test ?_
      refine x_op ?_
      refine x_cb1 ?_
      refine (ev_var rfl) _ _ _ _ _ hA fun v H hA => ?_
      refine f_o1m o1_lenD hA hm fun t2 v H hA hm => ?_
      refine ev_int _ _ _ _ _ hA fun v H hA => ?_
      refine o2_neI _ _ _ _ _ _ _ hA fun v H hA => ?_
      refine f_tst (P := fun c H1 => _) hA fun hA => ?_
      refine f_pick hm (fun hm => ?_) (fun hm => ?_)
      ·
        exact hm H hA
      ·
        refine x_not ?_
        refine x_B ?_
        refine x_cb2 ?_
        refine x_op ?_
        refine (ev_var rfl) _ _ _ _ _ hA fun v H hA => ?_
        refine ev_int _ _ _ _ _ hA fun v H hA => ?_
        refine f_o2m o2_atD hA hm fun t3 v H hA hm => ?_
        refine ev_cv (x := .ty "tuple") _ _ _ _ _ hA fun v H hA => ?_
        refine o2_isi (d := t3) .tuple dpt_d _ _ _ _ _ _ _ hA fun v H hA => ?_
        refine f_tst (P := fun c H1 => _) hA fun hA => ?_
        exact hm H hA
  ·
    replace hA : At K g [some (.dat (eD a)), none, none, none] _ _ _ := hA
    refine f_ifS hm (fun hm => ?_) (fun hm => ?_)
    ·
      refine bj_go hA hm ?_
      change BJ K _ [some (.dat (eD a)), none, none, none] _ _ _ _ _
      refine bj_assoc ?_
      refine fun g σ H D hA hm => x_ret ?_
      refine ev_bl _ _ _ _ _ hA fun v H hA => ?_
      exact hm v H _ (hA.weak1 (.d .nil) fun j z => nomatch z)
    ·
      refine bj_go hA hm ?_
      change BJ K _ [some (.dat (eD a)), none, none, none] _ _ _ _ _
      refine bj_pass ?_
      refine fun g σ H D hA hm => ?_
      refine x_forT ?_
      refine x_op ?_
      refine x_op ?_
      refine (ev_var rfl) _ _ _ _ _ hA fun v H hA => ?_
      refine ev_int _ _ _ _ _ hA fun v H hA => ?_
      refine f_o2m o2_atD hA hm fun t4 v H hA hm => ?_
      refine f_tupD hA hm fun t5 hA hm => ?_
      refine x_tup ?_
      refine x_cons ?_
      refine x_op ?_
      refine (ev_var rfl) _ _ _ _ _ hA fun v H hA => ?_
      refine ev_int _ _ _ _ _ hA fun v H hA => ?_
      refine f_o2m o2_atD hA hm fun t6 v H hA hm => ?_
      refine x_nil ?_
      refine f_tup (vs := [_]) [eD t6] hA rfl (Nat.le_of_ble_eq_true rfl) fun v H hA => ?_
      refine f_o2m (o2_catT (xs := t5) (ys := [t6]) (e := eD)) hA hm fun t7 v H hA hm => ?_
      refine wk_tup (xs := t7) (e := eD) hA (f_for (e := eD) (fun (s8 : Unit) => [some (.dat (eD a)), none, none, none]) (s0 := ()) (.s (.d (.d (.d .nil)))) hm (hb_of (e := eD) (js := [1]) (ps := fun b9 => [eD b9]) (fun b => tj_name) (hjl (n := 4) (fun s => rfl) (by decide)) (fun s8 b9 => ?_)) (fun s8 => ?_))
      ·
        change BJ K _ [some (.dat (eD a)), some (.dat (eD b9)), none, none] _ _ _ _ _
        refine fun g σ H D hA hm => x_ifS ?_
        refine x_not ?_
        refine x_B ?_
        refine x_call1 ?_
        refine (ev_var rfl) _ _ _ _ _ hA fun v H hA => ?_
        refine f_call [.d (eD b9)] b9 (fun r => []) hA rfl rfl True.intro (fun as h => match as, h with | [], _ => rfl) (fun _ => rfl) (fun r as h => match as, h with | [], _ => rfl) (fun r j z => nomatch z) .nil (hm.bindR.imp (fun r10 hm v H hA => ?_) fun _ q => q)
        refine f_tst (P := fun c H1 => _) hA fun hA => ?_
        refine f_ifS hm (fun hm => ?_) (fun hm => ?_)
        ·
          refine bj_go hA hm ?_
          change BJ K _ [some (.dat (eD a)), some (.dat (eD b9)), none, none] _ _ _ _ _
          refine bj_assoc ?_
          refine fun g σ H D hA hm => x_ret ?_
          refine ev_bl _ _ _ _ _ hA fun v H hA => ?_
          exact hm v H _ (hA.weak1 (.d .nil) fun j z => nomatch z)
        ·
          refine bj_go hA hm ?_
          change BJ K _ [some (.dat (eD a)), some (.dat (eD b9)), none, none] _ _ _ _ _
          refine bj_pass ?_
          exact bj_nx (a := ()) (.s (.d (.d (.d .nil))))
      ·
        change BJ K _ [some (.dat (eD a)), none, none, none] _ _ _ _ _
        refine fun g σ H D hA hm => ?_
        refine x_forZ ?_
        refine x_op ?_
        refine (ev_var rfl) _ _ _ _ _ hA fun v H hA => ?_
        refine ev_int _ _ _ _ _ hA fun v H hA => ?_
        refine f_o2m o2_atD hA hm fun t11 v H hA hm => ?_
        refine x_sl ?_
        refine x_op ?_
        refine (ev_var rfl) _ _ _ _ _ hA fun v H hA => ?_
        refine ev_int _ _ _ _ _ hA fun v H hA => ?_
        refine f_o2m o2_atD hA hm fun t12 v H hA hm => ?_
        refine (evo_some ev_int) _ _ _ _ _ hA fun H hA => ?_
        refine evo_none _ _ _ _ _ hA fun H hA => ?_
        refine f_cutD hA hm fun t13 v H hA hm => ?_
        refine wk_zipD hA hm fun l14 hm => f_for (e := (eP2 eD eD)) (fun (s15 : Unit) => [none, none, none, none]) (s0 := ()) (.d (.d (.d (.d .nil)))) hm (hb_of (e := (eP2 eD eD)) (js := [2, 3]) (ps := fun b16 => [eD b16.1, eD b16.2]) (fun b => (tj_tup (tjs_cons tj_name (tjs_cons tj_name tjs_nil)) rfl)) (hjl (n := 4) (fun s => rfl) (by decide)) (fun s15 b16 => ?_)) (fun s15 => ?_)
        ·
          change BJ K _ [none, none, some (.dat (eD b16.1)), some (.dat (eD b16.2))] _ _ _ _ _
          refine fun g σ H D hA hm => x_ifS ?_
          refine x_test ?_
          refine x_op ?_
          refine (ev_var rfl) _ _ _ _ _ hA fun v H hA => ?_
          refine (ev_var rfl) _ _ _ _ _ hA fun v H hA => ?_
          refine f_str hA hm fun t17 hA hm => ?_
          refine f_str1 hA hm fun t18 hA hm => ?_
          refine o2_geS _ _ _ _ _ _ _ hA fun v H hA => ?_
          refine f_tst (P := fun c H1 => _) hA fun hA => ?_
          refine f_ifS hm (fun hm => ?_) (fun hm => ?_)
          ·
            refine bj_go hA hm ?_
            change BJ K _ [none, none, some (.dat (eD b16.1)), some (.dat (eD b16.2))] _ _ _ _ _
            refine bj_assoc ?_
            refine fun g σ H D hA hm => x_ret ?_
            refine ev_bl _ _ _ _ _ hA fun v H hA => ?_
            exact hm v H _ (hA.weak1 (.d .nil) fun j z => nomatch z)
          ·
            refine bj_go hA hm ?_
            change BJ K _ [none, none, some (.dat (eD b16.1)), some (.dat (eD b16.2))] _ _ _ _ _
            refine bj_pass ?_
            exact bj_nx (a := ()) (.d (.d (.d (.d .nil))))
        ·
          change BJ K _ [none, none, none, none] _ _ _ _ _
          refine fun g σ H D hA hm => x_ret ?_
          refine ev_bl _ _ _ _ _ hA fun v H hA => ?_
          exact hm v H _ (hA.weak1 (.d .nil) fun j z => nomatch z)
theorem ok_check_frame (T : Txt K mg Z) : FnOk P w K mg base (L2.CX P w) 3 Z.f_check_frame Z.d_check_frame ["frame"] (Spec K Z.ec 1 pre_check_frame f_check_frame post_check_frame ret_check_frame) := by
  refine fn_okN T.d_check_frame.F sc_check_frame rfl m_check_frame (fun _ => rfl) fun cdv A outer s H E hr => ?_
  refine ⟨_, (pss_cons (ps_if (pt_cmpR op_gt (pe_callB (r := Gv.rLen K) c_len (by rfl) T.z_len (by decide +kernel) (pa_cons (pv 0) pa_nil)) (pe_gk (by rfl) T.k_MOST_FRAMED) (nomark _)) (pss_cons (ps_raise rfl (takes_of rfl rfl rfl rfl) (pmk_oex T.x_TooMany.oex T.x_TooMany.iC T.x_TooMany.tI (ini_TooMany T) (hr.mono (by decide)) T.x_TooMany.b .nil passL (by rfl) T.x_TooMany.g (pa_cons (pe_gk (by rfl) T.k_MOST_FRAMED) pa_nil)))
  pss_nil) pss_nil)
  (pss_cons (ps_set (i := 1) sc_check_frame.nd rfl (Or.inl rfl) (pe_lst pa_nil))
  (pss_cons (ps_for (passes_of rfl) rfl (pi_enumQ (by rfl) T.z_enumerate (pv 0)) (pg_tup rfl (pgs_cons (pg_name (i := 2) sc_check_frame.nd rfl (Or.inl rfl)) (pgs_cons (pg_name (i := 3) sc_check_frame.nd rfl (Or.inl rfl)) pgs_nil))) (pss_cons (ps_if (pw_or (pt_not (pt_val (pe_callS (ok_frame_rung_fits (K := K) T) (hr.mono (by decide)) (by rfl) T.d_frame_rung_fits.g T.d_frame_rung_fits.F.kp T.d_frame_rung_fits.b (fun σ => passAt (takes_of rfl rfl rfl rfl) σ) (pa_cons (pv 3) pa_nil)))) (pw_or1 (pt_cmpR (r := rIn K false) op_in_seq (pe_ix (r := rIxQ K) ix_q (pv 3) pe_int (fun _ _ => rfl)) (pv 1) rfl))).pt (pss_cons (ps_raise rfl (takes_of rfl rfl rfl rfl) (pmk_oex T.x_BadBook.oex T.x_BadBook.iC T.x_BadBook.tI (ini_BadBook T) (hr.mono (by decide)) T.x_BadBook.b .nil passL (by rfl) T.x_BadBook.g (pa_cons pe_str (pa_cons (pv 2) pa_nil))))
  pss_nil) pss_nil)
  (pss_cons (ps_expr (pe_bm PySem.F.plainAttrs_list PySem.F.slot_list_append PySem.F.type_list_append mt_append (pv 1) (pa_cons (pe_ix (r := rIxQ K) ix_q (pv 3) pe_int (fun _ _ => rfl)) pa_nil)))
  pss_nil)))
  pss_nil))), ?_⟩
  intro a as _
  change BJ K _ [some (.dat (eD a)), none, none, none] _ _ _ _ _
  refine fun g σ H D hA hm => x_ifS ?_
  refine x_test ?_
  refine x_op ?_
  refine x_cb1 ?_
  refine (ev_var rfl) _ _ _ _ _ hA fun v H hA => ?_
  refine f_o1m o1_lenD hA hm fun t1 v H hA hm => ?_
  refine ev_int _ _ _ _ _ hA fun v H hA => ?_
  refine o2_c0 _ _ _ _ _ _ _ hA fun v H hA => ?_
  refine f_tst (P := fun c H1 => _) hA fun hA => ?_
  refine f_ifS hm (fun hm => ?_) (fun hm => ?_)
  ·
    refine bj_go hA hm ?_
    change BJ K _ [some (.dat (eD a)), none, none, none] _ _ _ _ _
    refine bj_assoc ?_
    exact bj_raise1 (cn := "TooMany") (dv := (PyData.int (8 : Int))) T.ec_TooMany T.x_TooMany.oex (T.x_TooMany.no _ (by decide)) rfl .nil (ev_box bx_i ev_int)
  ·
    refine bj_go hA hm ?_
    change BJ K _ [some (.dat (eD a)), none, none, none] _ _ _ _ _
    refine bj_pass ?_
    refine fun g σ H D hA hm => x_asg ?_
    refine (ev_lst [] ea_nil) _ _ _ _ _ hA fun v H hA => ?_
    refine f_setlt (e := []) (fun t => .own none (.lst (List.map eS t))) hA (fun t j z => nomatch z) rfl hm (fun written_2 => ?_)
    change BJ K _ [some (.dat (eD a)), some (.own none (.lst (List.map eS written_2))), none, none] _ _ _ _ _
    refine fun g σ H D hA hm => ?_
    refine x_forE ?_
    refine (ev_var rfl) _ _ _ _ _ hA fun v H hA => ?_
    refine wk_enumD hA hm fun l3 hm => f_for (e := (eP2 eI eD)) (fun (s4 : (List Str)) => [none, some (.own none (.lst (List.map eS s4))), none, none]) (s0 := written_2) (.d (.s (.d (.d .nil)))) hm (hb_of (e := (eP2 eI eD)) (js := [2, 3]) (ps := fun b5 => [eI b5.1, eD b5.2]) (fun b => (tj_tup (tjs_cons tj_name (tjs_cons tj_name tjs_nil)) rfl)) (hjl (n := 4) (fun s => rfl) (by decide)) (fun s4 b5 => ?_)) (fun s4 => ?_)
    ·
      change BJ K _ [none, some (.own none (.lst (List.map eS s4))), some (.dat (eI b5.1)), some (.dat (eD b5.2))] _ _ _ _ _
      refine fun g σ H D hA hm => x_ifS ?_
      refine f_joinT (fun (s : Bool) => [none, some (.own none (.lst (List.map eS s4))), some (.dat (eI b5.1)), some (.dat (eD b5.2))]) (fun s => s) hA hm (fun hm => ?_) (fun j6 H hA hm => ?_)
      ·
        refine x_orT ?_
        refine x_not ?_
        refine x_B ?_
        refine x_call1 ?_
        refine (ev_var rfl) _ _ _ _ _ hA fun v H hA => ?_
        refine f_call [.d (eD b5.2)] b5.2 (fun r => []) hA rfl rfl True.intro (fun as h => match as, h with | [], _ => rfl) (fun _ => rfl) (fun r as h => match as, h with | [], _ => rfl) (fun r j z => nomatch z) .nil (hm.bindR.imp (fun r7 hm v H hA => ?_) fun _ q => q)
        refine f_tst (P := fun c H1 => _) hA fun hA => ?_
        refine f_pick hm (fun hm => ?_) (fun hm => ?_)
        ·
          exact hm H hA
        ·
          refine x_test ?_
          refine x_op ?_
          refine x_op ?_
          refine (ev_var rfl) _ _ _ _ _ hA fun v H hA => ?_
          refine ev_int _ _ _ _ _ hA fun v H hA => ?_
          refine f_o2m o2_atD hA hm fun t8 v H hA hm => ?_
          refine (ev_own rfl) _ _ _ _ _ hA fun v H hA => ?_
          refine f_str1 hA hm fun t9 hA hm => ?_
          refine (o2_inS (xs := s4) (.l (.als rfl))) _ _ _ _ _ _ _ hA fun v H hA => ?_
          refine f_tst (P := fun c H1 => _) hA fun hA => ?_
          exact hm H hA
      ·
        replace hA : At K g [none, some (.own none (.lst (List.map eS s4))), some (.dat (eI b5.1)), some (.dat (eD b5.2))] _ _ _ := hA
        refine f_ifS hm (fun hm => ?_) (fun hm => ?_)
        ·
          refine bj_go hA hm ?_
          change BJ K _ [none, some (.own none (.lst (List.map eS s4))), some (.dat (eI b5.1)), some (.dat (eD b5.2))] _ _ _ _ _
          refine bj_assoc ?_
          exact bj_raise2 (cn := "BadBook") (dv := (PyData.str ("frame" : Str))) (dw := (PyData.int b5.1)) T.ec_BadBook T.x_BadBook.oex (T.x_BadBook.no _ (by decide)) (T.x_BadBook.no _ (by decide)) rfl .nil (ev_box bx_s ev_str) (ev_box bx_i (ev_var rfl))
        ·
          refine bj_go hA hm ?_
          change BJ K _ [none, some (.own none (.lst (List.map eS s4))), some (.dat (eI b5.1)), some (.dat (eD b5.2))] _ _ _ _ _
          refine bj_pass ?_
          refine fun g σ H D hA hm => x_drop ?_
          refine x_app rfl hA fun x H hA => ?_
          refine x_op ?_
          refine (ev_var rfl) _ _ _ _ _ hA fun v H hA => ?_
          refine ev_int _ _ _ _ _ hA fun v H hA => ?_
          refine f_o2m o2_atD hA hm fun t10 v H hA hm => ?_
          refine f_str hA hm fun t11 hA hm => ?_
          refine f_appm (xs := s4) (e := eS) rfl hA hm fun ys12 H hA hm => ?_
          refine bj_go hA hm ?_
          change BJ K _ [none, some (.own none (.lst (List.map eS ys12))), some (.dat (eI b5.1)), some (.dat (eD b5.2))] _ _ _ _ _
          exact bj_nx (a := ys12) (.d (.s (.d (.d .nil))))
    ·
      change BJ K _ [none, some (.own none (.lst (List.map eS s4))), none, none] _ _ _ _ _
      exact bj_nx (a := ()) (.d .nil)
theorem ok_touching (T : Txt K mg Z) : FnOk P w K mg base (L2.CX P w) 4 Z.f_touching Z.d_touching ["frame"] (Spec K Z.ec 1 pre_touching f_touching post_touching ret_touching) := by
  refine fn_ok T.d_touching.F sc_touching rfl m_touching fun cdv A outer s H E hr => ?_
  refine ⟨_, (pss_cons (ps_expr (pe_callS (ok_check_frame (K := K) T) (hr.mono (by decide)) (by rfl) T.d_check_frame.g T.d_check_frame.F.kp T.d_check_frame.b (fun σ => passAt (takes_of rfl rfl rfl rfl) σ) (pa_cons (pv 0) pa_nil)))
  (pss_cons (ps_set (i := 1) sc_touching.nd rfl (Or.inr rfl) (pe_callB (r := Gv.rLen K) c_len (by rfl) T.z_len (by decide +kernel) (pa_cons (pv 0) pa_nil)))
  (pss_cons (ps_ret (pe_callTy (r := rTuple K) c_tuple (by rfl) T.z_tuple (by decide +kernel) (pa_cons (pe_lc2 (own := [("low", 2), ("high", 3)]) (vs1 := [3]) (g := gName 2) (g1 := gName 3) rfl sc_touching.nd (pi_range1 (by rfl) T.z_range (pa_cons (pv 1) pa_nil)) (blkOk_by (N := ["frame", "many", "low", "high"]) (sc := defScope st_touching) (by decide +kernel)) (by decide) (fun _ _ _ _ _ => (pg_name (i := 2) sc_touching.nd rfl (Or.inl rfl))) (fun _ _ _ _ _ => pts_nil) (fun _ _ _ _ _ => (pi_range2 (by rfl) T.z_range (pa_cons (pe_op op_add (pv 2) pe_int) (pa_cons (pv 1) pa_nil)))) (fun _ _ _ _ _ => (pg_name (i := 3) sc_touching.nd rfl (Or.inl rfl))) (fun _ _ _ _ _ => (pts_one (pw_or (pt_cmpR (r := rIn K false) op_in_seq (pe_ix (r := rIxQ K) ix_q (pe_ix (r := rIxQ K) ix_q (pv 0) (pv 2) (fun _ _ => rfl)) pe_int (fun _ _ => rfl)) (pe_ix (r := rIxQ K) ix_q (pe_ix (r := rIxQ K) ix_q (pv 0) (pv 3) (fun _ _ => rfl)) pe_int (fun _ _ => rfl)) rfl) (pw_or1 (pt_cmpR (r := rIn K false) op_in_seq (pe_ix (r := rIxQ K) ix_q (pe_ix (r := rIxQ K) ix_q (pv 0) (pv 3) (fun _ _ => rfl)) pe_int (fun _ _ => rfl)) (pe_ix (r := rIxQ K) ix_q (pe_ix (r := rIxQ K) ix_q (pv 0) (pv 2) (fun _ _ => rfl)) pe_int (fun _ _ => rfl)) rfl))).pt)) (fun _ _ _ _ _ => (pe_tup (pa_cons (pv 2) (pa_cons (pv 3) pa_nil))))) pa_nil)))
  pss_nil))), ?_⟩
  intro a as _
  change BJ K _ [some (.dat (eD a)), none, none, none] _ _ _ _ _
  refine fun g σ H D hA hm => x_drop ?_
  refine x_call1 ?_
  refine (ev_var rfl) _ _ _ _ _ hA fun v H hA => ?_
  refine f_call [.d (eD a)] a (fun r => []) hA rfl rfl True.intro (fun as h => match as, h with | [], _ => rfl) (fun _ => rfl) (fun r as h => match as, h with | [], _ => rfl) (fun r j z => nomatch z) .nil (hm.bindR.imp (fun r1 hm v H hA => ?_) fun _ q => q)
  refine f_dropgo hA hm ?_
  change BJ K _ [some (.dat (eD a)), none, none, none] _ _ _ _ _
  refine fun g σ H D hA hm => x_asg ?_
  refine x_cb1 ?_
  refine (ev_var rfl) _ _ _ _ _ hA fun v H hA => ?_
  refine f_o1m o1_lenD hA hm fun t2 v H hA hm => ?_
  refine f_setgo hA (fun j z => nomatch z) rfl hm ?_
  change BJ K _ [some (.dat (eD a)), some (.dat (eI t2)), none, none] _ _ _ _ _
  refine fun g σ H D hA hm => x_ret ?_
  refine x_cb1 ?_
  refine x_lc2R1 ?_
  refine (ev_var rfl) _ _ _ _ _ hA fun v H hA => ?_
  refine f_rng1 (b := t2) hA hm fun hm => f_lc2W (e := eI) (enc := eQ) (js := [2]) (ps := fun b4 => [eI b4]) ([some (.dat (eD a)), some (.dat (eI t2)), none, none]) (fun b => tj_name) (by decide) (hnl1 rfl) (hnl1 rfl) (by decide) (fun b4 g σ τ H D acc Nx hA hm => ?_) hm (fun r6 v H hA hm => ?_)
  ·
    replace hA : At K g [some (.dat (eD a)), some (.dat (eI t2)), some (.dat (eI b4)), none] _ _ _ := hA
    refine x_inR2 ?_
    refine (ev_op (ev_var rfl) ev_int o2_i0) _ _ _ _ _ hA fun v H hA => ?_
    refine (ev_var rfl) _ _ _ _ _ hA fun v H hA => ?_
    refine f_rng2 (a := (b4 + (1 : Int))) (b := t2) hA hm fun hm => f_in2 (e1 := eI) (js := [3]) (ps := fun b5 => [eI b5]) (fun b => tj_name) (by decide) (hnl1 rfl) (hnl1 rfl) (by decide) (ij_fwd fun b5 g σ τ H Q Qn hA hm => ?_) hm.outR
    replace hA : At K g [some (.dat (eD a)), some (.dat (eI t2)), some (.dat (eI b4)), some (.dat (eI b5))] _ _ _ := hA
    refine f_joinT (fun (s : Bool) => [some (.dat (eD a)), some (.dat (eI t2)), some (.dat (eI b4)), some (.dat (eI b5))]) (fun s => s) hA hm (fun hm => ?_) (fun j7 H hA hm => ?_)
    ·
      refine x_orT ?_
      refine x_test ?_
      refine x_op ?_
      refine x_op ?_
      refine x_op ?_
      refine (ev_var rfl) _ _ _ _ _ hA fun v H hA => ?_
      refine (ev_var rfl) _ _ _ _ _ hA fun v H hA => ?_
      refine f_o2m o2_atD hA hm fun t8 v H hA hm => ?_
      refine ev_int _ _ _ _ _ hA fun v H hA => ?_
      refine f_o2m o2_atD hA hm fun t9 v H hA hm => ?_
      refine x_op ?_
      refine x_op ?_
      refine (ev_var rfl) _ _ _ _ _ hA fun v H hA => ?_
      refine (ev_var rfl) _ _ _ _ _ hA fun v H hA => ?_
      refine f_o2m o2_atD hA hm fun t10 v H hA hm => ?_
      refine ev_int _ _ _ _ _ hA fun v H hA => ?_
      refine f_o2m o2_atD hA hm fun t11 v H hA hm => ?_
      refine f_texts hA hm fun t12 hA hm => ?_
      refine f_str1 hA hm fun t13 hA hm => ?_
      refine (o2_inS (xs := t12) .t) _ _ _ _ _ _ _ hA fun v H hA => ?_
      refine f_tst (P := fun c H1 => _) hA fun hA => ?_
      refine f_pick hm (fun hm => ?_) (fun hm => ?_)
      ·
        exact hm H hA
      ·
        refine x_test ?_
        refine x_op ?_
        refine x_op ?_
        refine x_op ?_
        refine (ev_var rfl) _ _ _ _ _ hA fun v H hA => ?_
        refine (ev_var rfl) _ _ _ _ _ hA fun v H hA => ?_
        refine f_o2m o2_atD hA hm fun t14 v H hA hm => ?_
        refine ev_int _ _ _ _ _ hA fun v H hA => ?_
        refine f_o2m o2_atD hA hm fun t15 v H hA hm => ?_
        refine x_op ?_
        refine x_op ?_
        refine (ev_var rfl) _ _ _ _ _ hA fun v H hA => ?_
        refine (ev_var rfl) _ _ _ _ _ hA fun v H hA => ?_
        refine f_o2m o2_atD hA hm fun t16 v H hA hm => ?_
        refine ev_int _ _ _ _ _ hA fun v H hA => ?_
        refine f_o2m o2_atD hA hm fun t17 v H hA hm => ?_
        refine f_texts hA hm fun t18 hA hm => ?_
        refine f_str1 hA hm fun t19 hA hm => ?_
        refine (o2_inS (xs := t18) .t) _ _ _ _ _ _ _ hA fun v H hA => ?_
        refine f_tst (P := fun c H1 => _) hA fun hA => ?_
        exact hm H hA
    ·
      replace hA : At K g [some (.dat (eD a)), some (.dat (eI t2)), some (.dat (eI b4)), some (.dat (eI b5))] _ _ _ := hA
      refine f_pick hm (fun hm => ?_) (fun hm => ?_)
      ·
        refine x_tup ?_
        refine x_cons ?_
        refine (ev_var rfl) _ _ _ _ _ hA fun v H hA => ?_
        refine x_cons ?_
        refine (ev_var rfl) _ _ _ _ _ hA fun v H hA => ?_
        refine x_nil ?_
        refine f_tupQ hA fun v H hA => ?_
        exact hm v H hA
      ·
        exact hm H hA
  ·
    replace hA : At K g [some (.dat (eD a)), some (.dat (eI t2)), none, none] _ _ _ := hA
    refine o1_tuple (.l .own) _ _ _ _ _ _ hA fun v H hA => ?_
    exact hm v H _ (hA.weak1 (.d .nil) fun j z => nomatch z)
theorem ok_directed (T : Txt K mg Z) : FnOk P w K mg base (L2.CX P w) 5 Z.f_directed Z.d_directed ["frame", "order"] (Spec K Z.ec 2 pre_directed f_directed post_directed ret_directed) := by
  refine fn_ok T.d_directed.F sc_directed rfl m_directed fun cdv A outer s H E hr => ?_
  refine ⟨_, (pss_cons (ps_set (i := 2) sc_directed.nd rfl (Or.inr rfl) (pe_dc (own := [("at", 3), ("place", 4)]) (g := gTup K 2 (gCons (gName 3) (gCons (gName 4) (gNil)))) rfl sc_directed.nd (pi_enumQ (by rfl) T.z_enumerate (pv 1)) (blkOk_by (N := ["frame", "order", "ranks", "at", "place", "pair"]) (sc := defScope st_directed) (by decide +kernel)) (fun _ _ _ _ _ => (pg_tup rfl (pgs_cons (pg_name (i := 3) sc_directed.nd rfl (Or.inl rfl)) (pgs_cons (pg_name (i := 4) sc_directed.nd rfl (Or.inl rfl)) pgs_nil)))) (fun _ _ _ _ _ => pts_nil) (fun _ _ _ _ _ => (pv 4)) (fun _ _ _ _ _ => (pv 3))))
  (pss_cons (ps_ret (pe_lc (own := [("pair", 5)]) (g := gName 5) rfl sc_directed.nd (pi_tup (pe_callS (ok_touching (K := K) T) (hr.mono (by decide)) (by rfl) T.d_touching.g T.d_touching.F.kp T.d_touching.b (fun σ => passAt (takes_of rfl rfl rfl rfl) σ) (pa_cons (pv 0) pa_nil))) (blkOk_by (N := ["frame", "order", "ranks", "at", "place", "pair"]) (sc := defScope st_directed) (by decide +kernel)) (fun _ _ _ _ _ => (pg_name (i := 5) sc_directed.nd rfl (Or.inl rfl))) (fun _ _ _ _ _ => pts_nil) (fun _ _ _ _ _ => (pe_ifExp (pt_cmpR op_lt (pe_dget (hu_of hr) (pv 2) (pe_ix (r := rIxT K) ix_tup (pv 5) pe_int (fun _ _ => rfl)) (fun _ _ => rfl)) (pe_dget (hu_of hr) (pv 2) (pe_ix (r := rIxT K) ix_tup (pv 5) pe_int (fun _ _ => rfl)) (fun _ _ => rfl)) (nomark _)) (pv 5) (pe_tup (pa_cons (pe_ix (r := rIxT K) ix_tup (pv 5) pe_int (fun _ _ => rfl)) (pa_cons (pe_ix (r := rIxT K) ix_tup (pv 5) pe_int (fun _ _ => rfl)) pa_nil)))))))
  pss_nil)), ?_⟩
  intro a as _
  change BJ K _ [some (.dat (eD a.1)), some (.dat (eD a.2)), none, none, none, none] _ _ _ _ _
  refine fun g σ H D hA hm => x_asg ?_
  refine x_dcE ?_
  refine (ev_var rfl) _ _ _ _ _ hA fun v H hA => ?_
  refine wk_enumD hA hm fun l1 hm => f_dcW (e := (eP2 eI eD)) (js := [3, 4]) (ps := fun b2 => [eI b2.1, eD b2.2]) ([some (.dat (eD a.1)), some (.dat (eD a.2)), none, none, none, none]) (fun b => (tj_tup (tjs_cons tj_name (tjs_cons tj_name tjs_nil)) rfl)) (by decide) (hnl1 rfl) (hnl1 rfl) (by decide) (dj_fwd fun b2 g σ τ H Q hA hm => ?_) hm (fun r3 v H hA hm => ?_)
  ·
    replace hA : At K g [some (.dat (eD a.1)), some (.dat (eD a.2)), none, some (.dat (eI b2.1)), some (.dat (eD b2.2)), none] _ _ _ := hA
    refine (ev_var rfl) _ _ _ _ _ hA fun v H hA => ?_
    refine f_int hA hm fun t4 hA hm => ?_
    refine (ev_var rfl) _ _ _ _ _ hA fun v H hA => ?_
    exact hm _ _ H hA
  ·
    replace hA : At K g [some (.dat (eD a.1)), some (.dat (eD a.2)), none, none, none, none] _ _ _ := hA
    refine f_setgo hA (fun j z => nomatch z) rfl hm ?_
    change BJ K _ [some (.dat (eD a.1)), some (.dat (eD a.2)), some (.dat (eM r3)), none, none, none] _ _ _ _ _
    refine fun g σ H D hA hm => x_ret ?_
    refine x_lcT ?_
    refine x_call1 ?_
    refine (ev_var rfl) _ _ _ _ _ hA fun v H hA => ?_
    refine f_call [.d (eD a.1)] a.1 (fun r => []) hA rfl rfl True.intro (fun as h => match as, h with | [], _ => rfl) (fun _ => rfl) (fun r as h => match as, h with | [], _ => rfl) (fun r j z => nomatch z) .nil (hm.bindR.imp (fun r5 hm v H hA => ?_) fun _ q => q)
    refine wk_tup (xs := r5) (e := eQ) hA (f_lcW (e := eQ) (enc := eQ) (js := [5]) (ps := fun b6 => [eQ b6]) (fun (s7 : Unit) => [some (.dat (eD a.1)), some (.dat (eD a.2)), some (.dat (eM r3)), none, none, none]) (()) (fun b => tj_name) (by decide) (hnl fun s => rfl) (hnl fun s => rfl) (by decide) (lj_fwd fun s7 b6 g σ τ H Q Qn hA hm => ?_) hm (fun r8 v H hA hm => ?_))
    ·
      replace hA : At K g [some (.dat (eD a.1)), some (.dat (eD a.2)), some (.dat (eM r3)), none, none, some (.dat (eQ b6))] _ _ _ := hA
      refine x_yes ?_
      refine f_joinV (fun (s : (Int × Int)) => [some (.dat (eD a.1)), some (.dat (eD a.2)), some (.dat (eM r3)), none, none, some (.dat (eQ b6))]) (fun s => .dat (eQ s)) hA hm (fun hm => ?_) (fun j9 v H hA hm => ?_)
      ·
        refine x_if ?_
        refine x_test ?_
        refine x_op ?_
        refine x_dget ?_
        refine (ev_var rfl) _ _ _ _ _ hA fun v H hA => ?_
        refine x_op ?_
        refine (ev_var rfl) _ _ _ _ _ hA fun v H hA => ?_
        replace hA := hA.box (fun v S q => eQ_p q)
        refine ev_int _ _ _ _ _ hA fun v H hA => ?_
        refine (o2_ixK (p := eI b6.1) rfl) _ _ _ _ _ _ _ hA fun v H hA => ?_
        refine f_dget hA hm fun t10 v H hA hm => ?_
        refine x_dget ?_
        refine (ev_var rfl) _ _ _ _ _ hA fun v H hA => ?_
        refine x_op ?_
        refine (ev_var rfl) _ _ _ _ _ hA fun v H hA => ?_
        replace hA := hA.box (fun v S q => eQ_p q)
        refine ev_int _ _ _ _ _ hA fun v H hA => ?_
        refine (o2_ixK (p := eI b6.2) rfl) _ _ _ _ _ _ _ hA fun v H hA => ?_
        refine f_dget hA hm fun t11 v H hA hm => ?_
        refine o2_c0 _ _ _ _ _ _ _ hA fun v H hA => ?_
        refine f_tst (P := fun c H1 => _) hA fun hA => ?_
        refine f_pick hm (fun hm => ?_) (fun hm => ?_)
        ·
          refine (ev_var rfl) _ _ _ _ _ hA fun v H hA => ?_
          exact hm v H hA
        ·
          refine x_tup ?_
          refine x_cons ?_
          refine x_op ?_
          refine (ev_var rfl) _ _ _ _ _ hA fun v H hA => ?_
          replace hA := hA.box (fun v S q => eQ_p q)
          refine ev_int _ _ _ _ _ hA fun v H hA => ?_
          refine (o2_ixK (p := eI b6.2) rfl) _ _ _ _ _ _ _ hA fun v H hA => ?_
          refine x_cons ?_
          refine x_op ?_
          refine (ev_var rfl) _ _ _ _ _ hA fun v H hA => ?_
          replace hA := hA.box (fun v S q => eQ_p q)
          refine ev_int _ _ _ _ _ hA fun v H hA => ?_
          refine (o2_ixK (p := eI b6.1) rfl) _ _ _ _ _ _ _ hA fun v H hA => ?_
          refine x_nil ?_
          refine f_tupQ hA fun v H hA => ?_
          exact hm v H hA
      ·
        replace hA : At K g [some (.dat (eD a.1)), some (.dat (eD a.2)), some (.dat (eM r3)), none, none, some (.dat (eQ b6))] _ _ _ := hA
        exact hm v H hA
    ·
      replace hA : At K g [some (.dat (eD a.1)), some (.dat (eD a.2)), some (.dat (eM r3)), none, none, none] _ _ _ := hA
      exact hm v H _ (hA.weak1 (.d (.d .nil)) fun j z => nomatch z)
theorem ok_parted (T : Txt K mg Z) : FnOk P w K mg base (L2.CX P w) 6 Z.f_parted Z.d_parted ["frame", "order", "other"] (Spec K Z.ec 3 pre_parted f_parted post_parted ret_parted) := by
  refine fn_ok T.d_parted.F sc_parted rfl m_parted fun cdv A outer s H E hr => ?_
  refine ⟨_, (pss_cons (ps_for (passes_of rfl) rfl (RZ.pi_zipA (by rfl) T.z_zip (pa_cons (pe_callS (ok_directed (K := K) T) (hr.mono (by decide)) (by rfl) T.d_directed.g T.d_directed.F.kp T.d_directed.b (fun σ => passAt (takes_of rfl rfl rfl rfl) σ) (pa_cons (pv 0) (pa_cons (pv 1) pa_nil))) (pa_cons (pe_callS (ok_directed (K := K) T) (hr.mono (by decide)) (by rfl) T.d_directed.g T.d_directed.F.kp T.d_directed.b (fun σ => passAt (takes_of rfl rfl rfl rfl) σ) (pa_cons (pv 0) (pa_cons (pv 2) pa_nil))) pa_nil))) (pg_tup rfl (pgs_cons (pg_name (i := 3) sc_parted.nd rfl (Or.inl rfl)) (pgs_cons (pg_name (i := 4) sc_parted.nd rfl (Or.inl rfl)) pgs_nil))) (pss_cons (ps_if (pt_cmpR (r := rNeD K) (op_neD hr.units) (pv 3) (pv 4) (nomark _)) (pss_cons (ps_ret (pv 3))
  pss_nil) pss_nil)
  pss_nil))
  (pss_cons (ps_ret pe_non)
  pss_nil)), ?_⟩
  intro a as _
  change BJ K _ [some (.dat (eD a.1)), some (.dat (eD a.2.1)), some (.dat (eD a.2.2)), none, none] _ _ _ _ _
  refine fun g σ H D hA hm => ?_
  refine x_forZ ?_
  refine x_call2 ?_
  refine (ev_var rfl) _ _ _ _ _ hA fun v H hA => ?_
  refine (ev_var rfl) _ _ _ _ _ hA fun v H hA => ?_
  refine f_call [.d (eD a.1), .d (eD a.2.1)] (a.1, a.2.1) (fun r => []) hA rfl rfl True.intro (fun as h => match as, h with | [], _ => rfl) (fun _ => rfl) (fun r as h => match as, h with | [], _ => rfl) (fun r j z => nomatch z) .nil (hm.bindR.imp (fun r1 hm v H hA => ?_) fun _ q => q)
  replace hA := hA.frz
  refine x_call2 ?_
  refine (ev_var rfl) _ _ _ _ _ hA fun v H hA => ?_
  refine (ev_var rfl) _ _ _ _ _ hA fun v H hA => ?_
  refine f_call [.d (eD a.1), .d (eD a.2.2)] (a.1, a.2.2) (fun r => []) hA rfl rfl True.intro (fun as h => match as, h with | [], _ => rfl) (fun _ => rfl) (fun r as h => match as, h with | [], _ => rfl) (fun r j z => nomatch z) .nil (hm.bindR.imp (fun r2 hm v H hA => ?_) fun _ q => q)
  replace hA := hA.frz
  refine wk_zipL (xs := r1) (ys := r2) (e := eQ) (e2 := eQ) hA (f_for (e := (eP2 eQ eQ)) (fun (s3 : Unit) => [none, none, none, none, none]) (s0 := ()) (.d (.d (.d (.d (.d .nil))))) hm (hb_of (e := (eP2 eQ eQ)) (js := [3, 4]) (ps := fun b4 => [eQ b4.1, eQ b4.2]) (fun b => (tj_tup (tjs_cons tj_name (tjs_cons tj_name tjs_nil)) rfl)) (hjl (n := 5) (fun s => rfl) (by decide)) (fun s3 b4 => ?_)) (fun s3 => ?_))
  ·
    change BJ K _ [none, none, none, some (.dat (eQ b4.1)), some (.dat (eQ b4.2))] _ _ _ _ _
    refine fun g σ H D hA hm => x_ifS ?_
    refine x_test ?_
    refine x_op ?_
    refine (ev_var rfl) _ _ _ _ _ hA fun v H hA => ?_
    refine (ev_var rfl) _ _ _ _ _ hA fun v H hA => ?_
    replace hA := hA.box (fun v S q => eQ_p q)
    replace hA := hA.box1 (fun v S q => eQ_p q)
    refine (o2_neD (x := (b4.1 : (Int × Int))) (y := (b4.2 : (Int × Int))) (.dat (bx_p2 bx_i bx_i)) (.dat (bx_p2 bx_i bx_i)) (eq_p2 eq_i eq_i)) _ _ _ _ _ _ _ hA fun v H hA => ?_
    refine f_tst (P := fun c H1 => _) hA fun hA => ?_
    refine f_ifS hm (fun hm => ?_) (fun hm => ?_)
    ·
      refine bj_go hA hm ?_
      change BJ K _ [none, none, none, some (.dat (eQ b4.1)), some (.dat (eQ b4.2))] _ _ _ _ _
      refine bj_assoc ?_
      refine fun g σ H D hA hm => x_ret ?_
      refine (ev_var rfl) _ _ _ _ _ hA fun v H hA => ?_
      replace hA := hA.box (fun v S q => eQ_p q)
      exact hm v H _ (hA.weak1 (.d (.d (.d .nil))) fun j z => nomatch z)
    ·
      refine bj_go hA hm ?_
      change BJ K _ [none, none, none, some (.dat (eQ b4.1)), some (.dat (eQ b4.2))] _ _ _ _ _
      refine bj_pass ?_
      exact bj_nx (a := ()) (.d (.d (.d (.d (.d .nil)))))
  ·
    change BJ K _ [none, none, none, none, none] _ _ _ _ _
    refine fun g σ H D hA hm => x_ret ?_
    refine ev_non _ _ _ _ _ hA fun v H hA => ?_
    exact hm v H _ (hA.weak1 (.d (.d (.d .nil))) fun j z => nomatch z)
theorem ok_check_two_orders (T : Txt K mg Z) : FnOk P w K mg base (L2.CX P w) 4 Z.f_check_two_orders Z.d_check_two_orders ["frame", "order", "other"] (Spec K Z.ec 3 pre_check_two_orders f_check_two_orders post_check_two_orders ret_check_two_orders) := by
  refine fn_okN T.d_check_two_orders.F sc_check_two_orders rfl m_check_two_orders (fun _ => rfl) fun cdv A outer s H E hr => ?_
  refine ⟨_, (pss_cons (ps_if (pt_not (pt_val (pe_callS (ok_each_once (K := K) T) (hr.mono (by decide)) (by rfl) T.d_each_once.g T.d_each_once.F.kp T.d_each_once.b (fun σ => passAt (takes_of rfl rfl rfl rfl) σ) (pa_cons (pv 1) (pa_cons (pe_callB (r := Gv.rLen K) c_len (by rfl) T.z_len (by decide +kernel) (pa_cons (pv 0) pa_nil)) pa_nil))))) (pss_cons (ps_raise rfl (takes_of rfl rfl rfl rfl) (pmk_oex T.x_BadNumber.oex T.x_BadNumber.iC T.x_BadNumber.tI (ini_BadNumber T) (hr.mono (by decide)) T.x_BadNumber.b .nil passL (by rfl) T.x_BadNumber.g (pa_cons pe_str pa_nil)))
  pss_nil) pss_nil)
  (pss_cons (ps_if (pt_not (pt_val (pe_callS (ok_each_once (K := K) T) (hr.mono (by decide)) (by rfl) T.d_each_once.g T.d_each_once.F.kp T.d_each_once.b (fun σ => passAt (takes_of rfl rfl rfl rfl) σ) (pa_cons (pv 2) (pa_cons (pe_callB (r := Gv.rLen K) c_len (by rfl) T.z_len (by decide +kernel) (pa_cons (pv 0) pa_nil)) pa_nil))))) (pss_cons (ps_raise rfl (takes_of rfl rfl rfl rfl) (pmk_oex T.x_BadNumber.oex T.x_BadNumber.iC T.x_BadNumber.tI (ini_BadNumber T) (hr.mono (by decide)) T.x_BadNumber.b .nil passL (by rfl) T.x_BadNumber.g (pa_cons pe_str pa_nil)))
  pss_nil) pss_nil)
  pss_nil)), ?_⟩
  intro a as _
  change BJ K _ [some (.dat (eD a.1)), some (.dat (eD a.2.1)), some (.dat (eD a.2.2))] _ _ _ _ _
  refine fun g σ H D hA hm => x_ifS ?_
  refine x_not ?_
  refine x_B ?_
  refine x_call2 ?_
  refine (ev_var rfl) _ _ _ _ _ hA fun v H hA => ?_
  refine x_cb1 ?_
  refine (ev_var rfl) _ _ _ _ _ hA fun v H hA => ?_
  refine f_o1m o1_lenD hA hm fun t1 v H hA hm => ?_
  refine f_call [.d (eD a.2.1), .d (eI t1)] (a.2.1, t1) (fun r => []) hA rfl rfl True.intro (fun as h => match as, h with | [], _ => rfl) (fun _ => rfl) (fun r as h => match as, h with | [], _ => rfl) (fun r j z => nomatch z) .nil (hm.bindR.imp (fun r2 hm v H hA => ?_) fun _ q => q)
  refine f_tst (P := fun c H1 => _) hA fun hA => ?_
  refine f_ifS hm (fun hm => ?_) (fun hm => ?_)
  ·
    refine bj_go hA hm ?_
    change BJ K _ [some (.dat (eD a.1)), some (.dat (eD a.2.1)), some (.dat (eD a.2.2))] _ _ _ _ _
    refine bj_assoc ?_
    exact bj_raise1 (cn := "BadNumber") (dv := (PyData.str ("order" : Str))) T.ec_BadNumber T.x_BadNumber.oex (T.x_BadNumber.no _ (by decide)) rfl .nil (ev_box bx_s ev_str)
  ·
    refine bj_go hA hm ?_
    change BJ K _ [some (.dat (eD a.1)), some (.dat (eD a.2.1)), some (.dat (eD a.2.2))] _ _ _ _ _
    refine bj_pass ?_
    refine fun g σ H D hA hm => x_ifS ?_
    refine x_not ?_
    refine x_B ?_
    refine x_call2 ?_
    refine (ev_var rfl) _ _ _ _ _ hA fun v H hA => ?_
    refine x_cb1 ?_
    refine (ev_var rfl) _ _ _ _ _ hA fun v H hA => ?_
    refine f_o1m o1_lenD hA hm fun t3 v H hA hm => ?_
    refine f_call [.d (eD a.2.2), .d (eI t3)] (a.2.2, t3) (fun r => []) hA rfl rfl True.intro (fun as h => match as, h with | [], _ => rfl) (fun _ => rfl) (fun r as h => match as, h with | [], _ => rfl) (fun r j z => nomatch z) .nil (hm.bindR.imp (fun r4 hm v H hA => ?_) fun _ q => q)
    refine f_tst (P := fun c H1 => _) hA fun hA => ?_
    refine f_ifS hm (fun hm => ?_) (fun hm => ?_)
    ·
      refine bj_go hA hm ?_
      change BJ K _ [some (.dat (eD a.1)), some (.dat (eD a.2.1)), some (.dat (eD a.2.2))] _ _ _ _ _
      refine bj_assoc ?_
      exact bj_raise1 (cn := "BadNumber") (dv := (PyData.str ("other" : Str))) T.ec_BadNumber T.x_BadNumber.oex (T.x_BadNumber.no _ (by decide)) rfl .nil (ev_box bx_s ev_str)
    ·
      refine bj_go hA hm ?_
      change BJ K _ [some (.dat (eD a.1)), some (.dat (eD a.2.1)), some (.dat (eD a.2.2))] _ _ _ _ _
      refine bj_pass ?_
      exact bj_nx (a := ()) (.d (.d (.d .nil)))
theorem ok_same_for_all (T : Txt K mg Z) : FnOk P w K mg base (L2.CX P w) 7 Z.f_same_for_all Z.d_same_for_all ["frame", "order", "other"] (Spec K Z.ec 3 pre_same_for_all f_same_for_all post_same_for_all ret_same_for_all) := by
  refine fn_ok T.d_same_for_all.F sc_same_for_all rfl m_same_for_all fun cdv A outer s H E hr => ?_
  refine ⟨_, (pss_cons (ps_expr (pe_callS (ok_check_frame (K := K) T) (hr.mono (by decide)) (by rfl) T.d_check_frame.g T.d_check_frame.F.kp T.d_check_frame.b (fun σ => passAt (takes_of rfl rfl rfl rfl) σ) (pa_cons (pv 0) pa_nil)))
  (pss_cons (ps_expr (pe_callS (ok_check_two_orders (K := K) T) (hr.mono (by decide)) (by rfl) T.d_check_two_orders.g T.d_check_two_orders.F.kp T.d_check_two_orders.b (fun σ => passAt (takes_of rfl rfl rfl rfl) σ) (pa_cons (pv 0) (pa_cons (pv 1) (pa_cons (pv 2) pa_nil)))))
  (pss_cons (ps_ret (pe_cmpR p_isN (pe_callS (ok_parted (K := K) T) (hr.mono (by decide)) (by rfl) T.d_parted.g T.d_parted.F.kp T.d_parted.b (fun σ => passAt (takes_of rfl rfl rfl rfl) σ) (pa_cons (pv 0) (pa_cons (pv 1) (pa_cons (pv 2) pa_nil)))) pe_non (nomark _)))
  pss_nil))), ?_⟩
  intro a as _
  change BJ K _ [some (.dat (eD a.1)), some (.dat (eD a.2.1)), some (.dat (eD a.2.2))] _ _ _ _ _
  refine fun g σ H D hA hm => x_drop ?_
  refine x_call1 ?_
  refine (ev_var rfl) _ _ _ _ _ hA fun v H hA => ?_
  refine f_call [.d (eD a.1)] a.1 (fun r => []) hA rfl rfl True.intro (fun as h => match as, h with | [], _ => rfl) (fun _ => rfl) (fun r as h => match as, h with | [], _ => rfl) (fun r j z => nomatch z) .nil (hm.bindR.imp (fun r1 hm v H hA => ?_) fun _ q => q)
  refine f_dropgo hA hm ?_
  change BJ K _ [some (.dat (eD a.1)), some (.dat (eD a.2.1)), some (.dat (eD a.2.2))] _ _ _ _ _
  refine fun g σ H D hA hm => x_drop ?_
  refine x_call3 ?_
  refine (ev_var rfl) _ _ _ _ _ hA fun v H hA => ?_
  refine (ev_var rfl) _ _ _ _ _ hA fun v H hA => ?_
  refine (ev_var rfl) _ _ _ _ _ hA fun v H hA => ?_
  refine f_call [.d (eD a.1), .d (eD a.2.1), .d (eD a.2.2)] (a.1, a.2.1, a.2.2) (fun r => []) hA rfl rfl True.intro (fun as h => match as, h with | [], _ => rfl) (fun _ => rfl) (fun r as h => match as, h with | [], _ => rfl) (fun r j z => nomatch z) .nil (hm.bindR.imp (fun r2 hm v H hA => ?_) fun _ q => q)
  refine f_dropgo hA hm ?_
  change BJ K _ [some (.dat (eD a.1)), some (.dat (eD a.2.1)), some (.dat (eD a.2.2))] _ _ _ _ _
  refine fun g σ H D hA hm => x_ret ?_
  refine x_op ?_
  refine x_call3 ?_
  refine (ev_var rfl) _ _ _ _ _ hA fun v H hA => ?_
  refine (ev_var rfl) _ _ _ _ _ hA fun v H hA => ?_
  refine (ev_var rfl) _ _ _ _ _ hA fun v H hA => ?_
  refine f_call [.d (eD a.1), .d (eD a.2.1), .d (eD a.2.2)] (a.1, a.2.1, a.2.2) (fun r => []) hA rfl rfl True.intro (fun as h => match as, h with | [], _ => rfl) (fun _ => rfl) (fun r as h => match as, h with | [], _ => rfl) (fun r j z => nomatch z) .nil (hm.bindR.imp (fun r3 hm v H hA => ?_) fun _ q => q)
  refine ev_non _ _ _ _ _ hA fun v H hA => ?_
  refine (o2_isN nn_t) _ _ _ _ _ _ _ hA fun v H hA => ?_
  exact hm v H _ (hA.weak1 (.d (.d (.d .nil))) fun j z => nomatch z)
theorem ok_swaps (T : Txt K mg Z) : FnOk P w K mg base (L2.CX P w) 7 Z.f_swaps Z.d_swaps ["frame", "order", "other"] (Spec K Z.ec 3 pre_swaps f_swaps post_swaps ret_swaps) := by
  refine fn_ok T.d_swaps.F sc_swaps rfl m_swaps fun cdv A outer s H E hr => ?_
  refine ⟨_, (pss_cons (ps_expr (pe_callS (ok_check_frame (K := K) T) (hr.mono (by decide)) (by rfl) T.d_check_frame.g T.d_check_frame.F.kp T.d_check_frame.b (fun σ => passAt (takes_of rfl rfl rfl rfl) σ) (pa_cons (pv 0) pa_nil)))
  (pss_cons (ps_expr (pe_callS (ok_check_two_orders (K := K) T) (hr.mono (by decide)) (by rfl) T.d_check_two_orders.g T.d_check_two_orders.F.kp T.d_check_two_orders.b (fun σ => passAt (takes_of rfl rfl rfl rfl) σ) (pa_cons (pv 0) (pa_cons (pv 1) (pa_cons (pv 2) pa_nil)))))
  (pss_cons (ps_if (pt_cmpR p_notN (pe_callS (ok_parted (K := K) T) (hr.mono (by decide)) (by rfl) T.d_parted.g T.d_parted.F.kp T.d_parted.b (fun σ => passAt (takes_of rfl rfl rfl rfl) σ) (pa_cons (pv 0) (pa_cons (pv 1) (pa_cons (pv 2) pa_nil)))) pe_non (nomark _)) (pss_cons (ps_ret pe_non)
  pss_nil) pss_nil)
  (pss_cons (ps_setLc (i := 3) (own := [("place", 6)]) (g := gName 6) rfl sc_swaps.nd rfl rfl (sw_true rfl rfl rfl (by decide +kernel)) (pi_seqV (pv 1)) (blkOk_by (N := ["frame", "order", "other", "ranks", "found", "at", "place"]) (sc := defScope st_swaps) (by decide +kernel)) (fun _ _ _ _ _ => (pg_name (i := 6) sc_swaps.nd rfl (Or.inl rfl))) (fun _ _ _ _ _ => pts_nil) (fun _ _ _ _ _ => (pe_bmK (K := K) (r := rIndex K) rfl PySem.F.plainAttrs_list PySem.F.slot_list_index PySem.F.type_list_index mt_index (pe_callTy (r := rList K) c_list (by rfl) T.z_list (by decide +kernel) (pa_cons (pv 2) pa_nil)) (pa_cons (pv 6) pa_nil))))
  (pss_cons (ps_set (i := 4) sc_swaps.nd rfl (Or.inl rfl) (pe_lst pa_nil))
  (pss_cons (ps_set (i := 5) sc_swaps.nd rfl (Or.inl rfl) pe_int)
  (pss_cons (ps_while (passes_of rfl) (pt_cmpR op_lt (pe_op op_add (pv 5) pe_int) (pe_callB (r := Gv.rLen K) c_len (by rfl) T.z_len (by decide +kernel) (pa_cons (pv 3) pa_nil)) (nomark _)) (pss_cons (ps_if (pt_cmpR op_gt (pe_ix (r := rIxL K) ix_list (pv 3) (pv 5) (fun _ _ => rfl)) (pe_ix (r := rIxL K) ix_list (pv 3) (pe_op op_add (pv 5) pe_int) (fun _ _ => rfl)) (nomark _)) (pss_cons (ps_asg (pe_tup (pa_cons (pe_ix (r := rIxL K) ix_list (pv 3) (pe_op op_add (pv 5) pe_int) (fun _ _ => rfl)) (pa_cons (pe_ix (r := rIxL K) ix_list (pv 3) (pv 5) (fun _ _ => rfl)) pa_nil))) (pg_tup rfl (pgs_cons (pg_sub (pv 3) (pv 5) set_list) (pgs_cons (pg_sub (pv 3) (pe_op op_add (pv 5) pe_int) set_list) pgs_nil))))
  (pss_cons (ps_expr (pe_bm PySem.F.plainAttrs_list PySem.F.slot_list_append PySem.F.type_list_append mt_append (pv 4) (pa_cons (pv 5) pa_nil)))
  (pss_cons (ps_set (i := 5) sc_swaps.nd rfl (Or.inl rfl) (pe_callB c_max2 (by rfl) T.z_max (by decide +kernel) (pa_cons (pe_op op_sub (pv 5) pe_int) (pa_cons pe_int pa_nil))))
  pss_nil))) (pss_cons (ps_aug (i := 5) sc_swaps.nd rfl (Or.inl rfl) pe_int ip_add)
  pss_nil))
  pss_nil))
  (pss_cons (ps_ret (pe_callTy (r := rTuple K) c_tuple (by rfl) T.z_tuple (by decide +kernel) (pa_cons (pv 4) pa_nil)))
  pss_nil)))))))), ?_⟩
  intro a as _
  change BJ K _ [some (.dat (eD a.1)), some (.dat (eD a.2.1)), some (.dat (eD a.2.2)), none, none, none, none] _ _ _ _ _
  refine fun g σ H D hA hm => x_drop ?_
  refine x_call1 ?_
  refine (ev_var rfl) _ _ _ _ _ hA fun v H hA => ?_
  refine f_call [.d (eD a.1)] a.1 (fun r => []) hA rfl rfl True.intro (fun as h => match as, h with | [], _ => rfl) (fun _ => rfl) (fun r as h => match as, h with | [], _ => rfl) (fun r j z => nomatch z) .nil (hm.bindR.imp (fun r1 hm v H hA => ?_) fun _ q => q)
  refine f_dropgo hA hm ?_
  change BJ K _ [some (.dat (eD a.1)), some (.dat (eD a.2.1)), some (.dat (eD a.2.2)), none, none, none, none] _ _ _ _ _
  refine fun g σ H D hA hm => x_drop ?_
  refine x_call3 ?_
  refine (ev_var rfl) _ _ _ _ _ hA fun v H hA => ?_
  refine (ev_var rfl) _ _ _ _ _ hA fun v H hA => ?_
  refine (ev_var rfl) _ _ _ _ _ hA fun v H hA => ?_
  refine f_call [.d (eD a.1), .d (eD a.2.1), .d (eD a.2.2)] (a.1, a.2.1, a.2.2) (fun r => []) hA rfl rfl True.intro (fun as h => match as, h with | [], _ => rfl) (fun _ => rfl) (fun r as h => match as, h with | [], _ => rfl) (fun r j z => nomatch z) .nil (hm.bindR.imp (fun r2 hm v H hA => ?_) fun _ q => q)
  refine f_dropgo hA hm ?_
  change BJ K _ [some (.dat (eD a.1)), some (.dat (eD a.2.1)), some (.dat (eD a.2.2)), none, none, none, none] _ _ _ _ _
  refine fun g σ H D hA hm => x_ifS ?_
  refine x_test ?_
  refine x_op ?_
  refine x_call3 ?_
  refine (ev_var rfl) _ _ _ _ _ hA fun v H hA => ?_
  refine (ev_var rfl) _ _ _ _ _ hA fun v H hA => ?_
  refine (ev_var rfl) _ _ _ _ _ hA fun v H hA => ?_
  refine f_call [.d (eD a.1), .d (eD a.2.1), .d (eD a.2.2)] (a.1, a.2.1, a.2.2) (fun r => []) hA rfl rfl True.intro (fun as h => match as, h with | [], _ => rfl) (fun _ => rfl) (fun r as h => match as, h with | [], _ => rfl) (fun r j z => nomatch z) .nil (hm.bindR.imp (fun r3 hm v H hA => ?_) fun _ q => q)
  refine ev_non _ _ _ _ _ hA fun v H hA => ?_
  refine (o2_notN nn_t) _ _ _ _ _ _ _ hA fun v H hA => ?_
  refine f_tst (P := fun c H1 => _) hA fun hA => ?_
  refine f_ifS hm (fun hm => ?_) (fun hm => ?_)
  ·
    refine bj_go hA hm ?_
    change BJ K _ [some (.dat (eD a.1)), some (.dat (eD a.2.1)), some (.dat (eD a.2.2)), none, none, none, none] _ _ _ _ _
    refine bj_assoc ?_
    refine fun g σ H D hA hm => x_ret ?_
    refine ev_non _ _ _ _ _ hA fun v H hA => ?_
    exact hm v H _ (hA.weak1 (.d (.d (.d .nil))) fun j z => nomatch z)
  ·
    refine bj_go hA hm ?_
    change BJ K _ [some (.dat (eD a.1)), some (.dat (eD a.2.1)), some (.dat (eD a.2.2)), none, none, none, none] _ _ _ _ _
    refine bj_pass ?_
    refine fun g σ H D hA hm => x_asg ?_
    refine x_lcD ?_
    refine (ev_var rfl) _ _ _ _ _ hA fun v H hA => ?_
    refine wk_seq hA hm fun l4 hm => f_lcW (e := eD) (enc := eI) (js := [6]) (ps := fun b5 => [eD b5]) (fun (s6 : Unit) => [some (.dat (eD a.1)), some (.dat (eD a.2.1)), some (.dat (eD a.2.2)), none, none, none, none]) (()) (fun b => tj_name) (by decide) (hnl fun s => rfl) (hnl fun s => rfl) (by decide) (lj_fwd fun s6 b5 g σ τ H Q Qn hA hm => ?_) hm (fun r7 v H hA hm => ?_)
    ·
      replace hA : At K g [some (.dat (eD a.1)), some (.dat (eD a.2.1)), some (.dat (eD a.2.2)), none, none, none, some (.dat (eD b5))] _ _ _ := hA
      refine x_yes ?_
      refine x_bm1 ?_
      refine x_cb1 ?_
      refine (ev_var rfl) _ _ _ _ _ hA fun v H hA => ?_
      refine f_o1m o1_listD hA hm fun t8 v H hA hm => ?_
      refine f_intsO hA hm fun t9 hA hm => ?_
      refine ⟨hA.tyL (ps := List.map eI t9) .own, ?_⟩
      refine (ev_var rfl) _ _ _ _ _ hA fun v H hA => ?_
      refine f_int hA hm fun t10 hA hm => ?_
      refine f_index (xs := t9) .own hA hm fun t11 v H hA hm => ?_
      exact hm v H hA
    ·
      replace hA : At K g [some (.dat (eD a.1)), some (.dat (eD a.2.1)), some (.dat (eD a.2.2)), none, none, none, none] _ _ _ := hA
      refine f_setgo hA (fun j z => nomatch z) rfl hm ?_
      change BJ K _ [some (.dat (eD a.1)), some (.dat (eD a.2.1)), some (.dat (eD a.2.2)), some (.own none (.lst (List.map eI r7.2))), none, none, none] _ _ _ _ _
      refine fun g σ H D hA hm => x_asg ?_
      refine (ev_lst [] ea_nil) _ _ _ _ _ hA fun v H hA => ?_
      refine f_setlt (e := []) (fun t => .own none (.lst (List.map eI t))) hA (fun t j z => nomatch z) rfl hm (fun found_12 => ?_)
      change BJ K _ [some (.dat (eD a.1)), some (.dat (eD a.2.1)), some (.dat (eD a.2.2)), some (.own none (.lst (List.map eI r7.2))), some (.own none (.lst (List.map eI found_12))), none, none] _ _ _ _ _
      refine fun g σ H D hA hm => x_asg ?_
      refine ev_int _ _ _ _ _ hA fun v H hA => ?_
      refine f_setlt (e := (0 : Int)) (fun t => .dat (eI t)) hA (fun t j z => nomatch z) rfl hm (fun at_13 => ?_)
      change BJ K _ [some (.dat (eD a.1)), some (.dat (eD a.2.1)), some (.dat (eD a.2.2)), some (.own none (.lst (List.map eI r7.2))), some (.own none (.lst (List.map eI found_12))), some (.dat (eI at_13)), none] _ _ _ _ _
      refine bj_while (fun (s14 : ((List Int) × (List Int) × Int)) => [none, none, none, some (.own none (.lst (List.map eI s14.1))), some (.own none (.lst (List.map eI s14.2.1))), some (.dat (eI s14.2.2)), none]) (s0 := (r7.2, found_12, at_13)) (.d (.d (.d (.s (.s (.s (.d .nil))))))) (cj_pure fun s14 => (evb_test (ev_op (ev_op (ev_var rfl) ev_int o2_i0) (ev_cb1 (ev_own rfl) (o1_lenT s14.1 eI (.l (.als rfl)))) o2_c0))) (fun s14 => ?_) (fun s14 => ?_)
      ·
        change BJ K _ [none, none, none, some (.own none (.lst (List.map eI s14.1))), some (.own none (.lst (List.map eI s14.2.1))), some (.dat (eI s14.2.2)), none] _ _ _ _ _
        refine fun g σ H D hA hm => x_ifS ?_
        refine x_test ?_
        refine x_op ?_
        refine x_op ?_
        refine (ev_own rfl) _ _ _ _ _ hA fun v H hA => ?_
        refine (ev_var rfl) _ _ _ _ _ hA fun v H hA => ?_
        refine f_o2m (o2_idxL (xs := s14.1) (e := eI) (.als rfl)) hA hm fun t15 v H hA hm => ?_
        refine x_op ?_
        refine (ev_own rfl) _ _ _ _ _ hA fun v H hA => ?_
        refine (ev_op (ev_var rfl) ev_int o2_i0) _ _ _ _ _ hA fun v H hA => ?_
        refine f_o2m (o2_idxL (xs := s14.1) (e := eI) (.als rfl)) hA hm fun t16 v H hA hm => ?_
        refine o2_c0 _ _ _ _ _ _ _ hA fun v H hA => ?_
        refine f_tst (P := fun c H1 => _) hA fun hA => ?_
        refine f_ifS hm (fun hm => ?_) (fun hm => ?_)
        ·
          refine bj_go hA hm ?_
          change BJ K _ [none, none, none, some (.own none (.lst (List.map eI s14.1))), some (.own none (.lst (List.map eI s14.2.1))), some (.dat (eI s14.2.2)), none] _ _ _ _ _
          refine bj_assoc ?_
          refine fun g σ H D hA hm => x_asg ?_
          refine x_tup ?_
          refine x_cons ?_
          refine x_op ?_
          refine (ev_own rfl) _ _ _ _ _ hA fun v H hA => ?_
          refine (ev_op (ev_var rfl) ev_int o2_i0) _ _ _ _ _ hA fun v H hA => ?_
          refine f_o2m (o2_idxL (xs := s14.1) (e := eI) (.als rfl)) hA hm fun t17 v H hA hm => ?_
          refine x_cons ?_
          refine x_op ?_
          refine (ev_own rfl) _ _ _ _ _ hA fun v H hA => ?_
          refine (ev_var rfl) _ _ _ _ _ hA fun v H hA => ?_
          refine f_o2m (o2_idxL (xs := s14.1) (e := eI) (.als rfl)) hA hm fun t18 v H hA hm => ?_
          refine x_nil ?_
          refine f_tup (vs := [_, _]) [eI t17, eI t18] hA rfl (Nat.le_of_ble_eq_true rfl) fun v H hA => ?_
          refine f_gtup2 (e1 := eI) (e2 := eI) (p := (t17, t18)) hA fun x y hA => ?_
          refine x_gsub ?_
          refine (ev_own rfl) _ _ _ _ _ hA fun v H hA => ?_
          refine (ev_var rfl) _ _ _ _ _ hA fun v H hA => ?_
          refine f_setm (xs := s14.1) (e := eI) rfl hA hm fun ys19 H hA hm => ?_
          replace hA : At K g [none, none, none, some (.own none (.lst (List.map eI ys19))), some (.own none (.lst (List.map eI s14.2.1))), some (.dat (eI s14.2.2)), none] _ _ _ := hA
          refine x_g2 ?_
          refine x_gsub ?_
          refine (ev_own rfl) _ _ _ _ _ hA fun v H hA => ?_
          refine (ev_op (ev_var rfl) ev_int o2_i0) _ _ _ _ _ hA fun v H hA => ?_
          refine f_setm (xs := ys19) (e := eI) rfl hA hm fun ys20 H hA hm => ?_
          replace hA : At K g [none, none, none, some (.own none (.lst (List.map eI ys20))), some (.own none (.lst (List.map eI s14.2.1))), some (.dat (eI s14.2.2)), none] _ _ _ := hA
          refine x_gnil ?_
          refine bj_go hA hm ?_
          change BJ K _ [none, none, none, some (.own none (.lst (List.map eI ys20))), some (.own none (.lst (List.map eI s14.2.1))), some (.dat (eI s14.2.2)), none] _ _ _ _ _
          refine bj_assoc ?_
          refine fun g σ H D hA hm => x_drop ?_
          refine x_app rfl hA fun x H hA => ?_
          refine (ev_var rfl) _ _ _ _ _ hA fun v H hA => ?_
          refine f_appm (xs := s14.2.1) (e := eI) rfl hA hm fun ys21 H hA hm => ?_
          refine bj_go hA hm ?_
          change BJ K _ [none, none, none, some (.own none (.lst (List.map eI ys20))), some (.own none (.lst (List.map eI ys21))), some (.dat (eI s14.2.2)), none] _ _ _ _ _
          refine bj_assoc ?_
          refine fun g σ H D hA hm => x_asg ?_
          refine (ev_cb2 (ev_op (ev_var rfl) ev_int o2_i0) ev_int o2_max) _ _ _ _ _ hA fun v H hA => ?_
          refine f_setlt (e := (maxI (s14.2.2 - (1 : Int)) (0 : Int))) (fun t => .dat (eI t)) hA (fun t j z => nomatch z) rfl hm (fun at_22 => ?_)
          change BJ K _ [none, none, none, some (.own none (.lst (List.map eI ys20))), some (.own none (.lst (List.map eI ys21))), some (.dat (eI at_22)), none] _ _ _ _ _
          refine bj_pass ?_
          exact bj_nx (a := (ys20, ys21, at_22)) (.d (.d (.d (.s (.s (.s (.d .nil)))))))
        ·
          refine bj_go hA hm ?_
          change BJ K _ [none, none, none, some (.own none (.lst (List.map eI s14.1))), some (.own none (.lst (List.map eI s14.2.1))), some (.dat (eI s14.2.2)), none] _ _ _ _ _
          refine bj_assoc ?_
          refine fun g σ H D hA hm => x_aug rfl hA fun x hA => ?_
          refine ev_int _ _ _ _ _ hA fun v H hA => ?_
          refine f_ip hA fun v H hA => ?_
          refine f_setlt (e := (s14.2.2 + (1 : Int))) (fun t => .dat (eI t)) hA (fun t j z => nomatch z) rfl hm (fun at_23 => ?_)
          change BJ K _ [none, none, none, some (.own none (.lst (List.map eI s14.1))), some (.own none (.lst (List.map eI s14.2.1))), some (.dat (eI at_23)), none] _ _ _ _ _
          refine bj_pass ?_
          exact bj_nx (a := (s14.1, s14.2.1, at_23)) (.d (.d (.d (.s (.s (.s (.d .nil)))))))
      ·
        change BJ K _ [none, none, none, some (.own none (.lst (List.map eI s14.1))), some (.own none (.lst (List.map eI s14.2.1))), some (.dat (eI s14.2.2)), none] _ _ _ _ _
        refine fun g σ H D hA hm => x_ret ?_
        refine (ev_cb1 (ev_own rfl) (o1_tuple (.l (.als rfl)))) _ _ _ _ _ hA fun v H hA => ?_
        exact hm v H _ (hA.weak1 (.d (.d (.d .nil))) fun j z => nomatch z)
theorem ok_directions (T : Txt K mg Z) : FnOk P w K mg base (L2.CX P w) 6 Z.f_directions Z.d_directions ["frame", "order"] (Spec K Z.ec 2 pre_directions f_directions post_directions ret_directions) := by
  refine fn_ok T.d_directions.F sc_directions rfl m_directions fun cdv A outer s H E hr => ?_
  refine ⟨_, (pss_cons (ps_expr (pe_callS (ok_check_frame (K := K) T) (hr.mono (by decide)) (by rfl) T.d_check_frame.g T.d_check_frame.F.kp T.d_check_frame.b (fun σ => passAt (takes_of rfl rfl rfl rfl) σ) (pa_cons (pv 0) pa_nil)))
  (pss_cons (ps_if (pt_not (pt_val (pe_callS (ok_each_once (K := K) T) (hr.mono (by decide)) (by rfl) T.d_each_once.g T.d_each_once.F.kp T.d_each_once.b (fun σ => passAt (takes_of rfl rfl rfl rfl) σ) (pa_cons (pv 1) (pa_cons (pe_callB (r := Gv.rLen K) c_len (by rfl) T.z_len (by decide +kernel) (pa_cons (pv 0) pa_nil)) pa_nil))))) (pss_cons (ps_raise rfl (takes_of rfl rfl rfl rfl) (pmk_oex T.x_BadNumber.oex T.x_BadNumber.iC T.x_BadNumber.tI (ini_BadNumber T) (hr.mono (by decide)) T.x_BadNumber.b .nil passL (by rfl) T.x_BadNumber.g (pa_cons pe_str pa_nil)))
  pss_nil) pss_nil)
  (pss_cons (ps_ret (pe_callTy (r := rTuple K) c_tuple (by rfl) T.z_tuple (by decide +kernel) (pa_cons (pe_callB (r := rSortedPO K) cr_sortedPO (by rfl) T.z_sorted (by decide +kernel) (pa_cons (pe_callS (ok_directed (K := K) T) (hr.mono (by decide)) (by rfl) T.d_directed.g T.d_directed.F.kp T.d_directed.b (fun σ => passAt (takes_of rfl rfl rfl rfl) σ) (pa_cons (pv 0) (pa_cons (pv 1) pa_nil))) pa_nil)) pa_nil)))
  pss_nil))), ?_⟩
  intro a as _
  change BJ K _ [some (.dat (eD a.1)), some (.dat (eD a.2))] _ _ _ _ _
  refine fun g σ H D hA hm => x_drop ?_
  refine x_call1 ?_
  refine (ev_var rfl) _ _ _ _ _ hA fun v H hA => ?_
  refine f_call [.d (eD a.1)] a.1 (fun r => []) hA rfl rfl True.intro (fun as h => match as, h with | [], _ => rfl) (fun _ => rfl) (fun r as h => match as, h with | [], _ => rfl) (fun r j z => nomatch z) .nil (hm.bindR.imp (fun r1 hm v H hA => ?_) fun _ q => q)
  refine f_dropgo hA hm ?_
  change BJ K _ [some (.dat (eD a.1)), some (.dat (eD a.2))] _ _ _ _ _
  refine fun g σ H D hA hm => x_ifS ?_
  refine x_not ?_
  refine x_B ?_
  refine x_call2 ?_
  refine (ev_var rfl) _ _ _ _ _ hA fun v H hA => ?_
  refine x_cb1 ?_
  refine (ev_var rfl) _ _ _ _ _ hA fun v H hA => ?_
  refine f_o1m o1_lenD hA hm fun t2 v H hA hm => ?_
  refine f_call [.d (eD a.2), .d (eI t2)] (a.2, t2) (fun r => []) hA rfl rfl True.intro (fun as h => match as, h with | [], _ => rfl) (fun _ => rfl) (fun r as h => match as, h with | [], _ => rfl) (fun r j z => nomatch z) .nil (hm.bindR.imp (fun r3 hm v H hA => ?_) fun _ q => q)
  refine f_tst (P := fun c H1 => _) hA fun hA => ?_
  refine f_ifS hm (fun hm => ?_) (fun hm => ?_)
  ·
    refine bj_go hA hm ?_
    change BJ K _ [some (.dat (eD a.1)), some (.dat (eD a.2))] _ _ _ _ _
    refine bj_assoc ?_
    exact bj_raise1 (cn := "BadNumber") (dv := (PyData.str ("order" : Str))) T.ec_BadNumber T.x_BadNumber.oex (T.x_BadNumber.no _ (by decide)) rfl .nil (ev_box bx_s ev_str)
  ·
    refine bj_go hA hm ?_
    change BJ K _ [some (.dat (eD a.1)), some (.dat (eD a.2))] _ _ _ _ _
    refine bj_pass ?_
    refine fun g σ H D hA hm => x_ret ?_
    refine x_cb1 ?_
    refine x_cb1 ?_
    refine x_call2 ?_
    refine (ev_var rfl) _ _ _ _ _ hA fun v H hA => ?_
    refine (ev_var rfl) _ _ _ _ _ hA fun v H hA => ?_
    refine f_call [.d (eD a.1), .d (eD a.2)] (a.1, a.2) (fun r => []) hA rfl rfl True.intro (fun as h => match as, h with | [], _ => rfl) (fun _ => rfl) (fun r as h => match as, h with | [], _ => rfl) (fun r j z => nomatch z) .nil (hm.bindR.imp (fun r4 hm v H hA => ?_) fun _ q => q)
    refine o1_sortedQ (xs := r4) .own _ _ _ _ _ _ hA fun v H hA => ?_
    refine o1_tuple (.l .own) _ _ _ _ _ _ hA fun v H hA => ?_
    replace hA := hA.box tq_p
    exact hm v H _ (hA.weak1 (.d (.d .nil)) fun j z => nomatch z)
theorem ok_law_numbers (T : Txt K mg Z) : FnOk P w K mg base (L2.CX P w) 1 Z.f_law_numbers Z.d_law_numbers ["script"] (Spec K Z.ec 1 pre_law_numbers f_law_numbers post_law_numbers ret_law_numbers) := by
  refine fn_ok T.d_law_numbers.F sc_law_numbers rfl m_law_numbers fun cdv A outer s H E hr => ?_
  refine ⟨_, (pss_cons (ps_set (i := 1) sc_law_numbers.nd rfl (Or.inl rfl) (pe_lst pa_nil))
  (pss_cons (ps_for (passes_of rfl) rfl (pi_range1 (by rfl) T.z_range (pa_cons (pe_callB c_min2 (by rfl) T.z_min (by decide +kernel) (pa_cons (pe_callB (r := Gv.rLen K) c_len (by rfl) T.z_len (by decide +kernel) (pa_cons (pv 0) pa_nil)) (pa_cons pe_int pa_nil))) pa_nil)) (pg_name (i := 2) sc_law_numbers.nd rfl (Or.inl rfl)) (pss_cons (ps_set (i := 3) sc_law_numbers.nd rfl (Or.inl rfl) (pe_callTy c_int (by rfl) T.z_int (by decide +kernel) (pa_cons (pe_ix (r := rIxL K) ix_list (pv 0) (pv 2) (fun _ _ => rfl)) pa_nil)))
  (pss_cons (ps_set (i := 4) sc_law_numbers.nd rfl (Or.inl rfl) pe_int)
  (pss_cons (ps_if (pt_cmpR op_lt (pv 3) pe_int (nomark _)) (pss_cons (ps_set (i := 3) sc_law_numbers.nd rfl (Or.inl rfl) (pe_op op_sub pe_int (pv 3)))
  (pss_cons (ps_set (i := 4) sc_law_numbers.nd rfl (Or.inl rfl) pe_int)
  pss_nil)) pss_nil)
  (pss_cons (ps_if (pt_cmpR op_ge (pv 3) (pe_op op_pow pe_int pe_int) (nomark _)) (pss_cons (ps_for (passes_of rfl) rfl (pi_range1 (by rfl) T.z_range (pa_cons pe_int pa_nil)) (pg_name (i := 5) sc_law_numbers.nd rfl (Or.inl rfl)) (pss_cons (ps_if (pt_cmpR op_gt (pv 3) pe_int (nomark _)) (pss_cons (ps_expr (pe_bm PySem.F.plainAttrs_list PySem.F.slot_list_append PySem.F.type_list_append mt_append (pv 1) (pa_cons (pe_op op_mod (pe_callTy c_int (by rfl) T.z_int (by decide +kernel) (pa_cons (pv 3) pa_nil)) pe_int) pa_nil)))
  (pss_cons (ps_set (i := 3) sc_law_numbers.nd rfl (Or.inl rfl) (pe_op op_fdiv (pv 3) pe_int))
  pss_nil)) pss_nil)
  pss_nil))
  pss_nil) (pss_cons (ps_set (i := 6) sc_law_numbers.nd rfl (Or.inl rfl) (pe_op op_mod (pe_callTy c_int (by rfl) T.z_int (by decide +kernel) (pa_cons (pe_op op_add (pe_op op_add (pe_op op_add (pe_op op_mul (pv 3) pe_int) (pe_op op_mul (pv 2) pe_int)) (pe_op op_mul (pv 4) pe_int)) pe_int) pa_nil)) pe_int))
  (pss_cons (ps_for (passes_of rfl) rfl (pi_range1 (by rfl) T.z_range (pa_cons pe_int pa_nil)) (pg_name (i := 5) sc_law_numbers.nd rfl (Or.inl rfl)) (pss_cons (ps_set (i := 6) sc_law_numbers.nd rfl (Or.inl rfl) (pe_op op_mod (pe_callTy c_int (by rfl) T.z_int (by decide +kernel) (pa_cons (pe_op op_add (pe_op op_add (pe_op op_mul (pv 6) pe_int) (pe_op op_mul (pe_callTy c_int (by rfl) T.z_int (by decide +kernel) (pa_cons (pe_op op_fdiv (pv 6) pe_int) pa_nil)) (pv 5))) pe_int) pa_nil)) pe_int))
  (pss_cons (ps_expr (pe_bm PySem.F.plainAttrs_list PySem.F.slot_list_append PySem.F.type_list_append mt_append (pv 1) (pa_cons (pe_op op_mod (pe_callTy c_int (by rfl) T.z_int (by decide +kernel) (pa_cons (pe_op op_fdiv (pv 6) pe_int) pa_nil)) pe_int) pa_nil)))
  pss_nil)))
  pss_nil)))
  pss_nil)))))
  (pss_cons (ps_expr (pe_bm0 PySem.F.plainAttrs_list PySem.F.slot_list_reverse PySem.F.type_list_reverse mt_reverse (pv 1)))
  (pss_cons (ps_ret (pv 1))
  pss_nil)))), ?_⟩
  intro a as _
  change BJ K _ [some (.dat ((eL eI) a)), none, none, none, none, none, none] _ _ _ _ _
  refine fun g σ H D hA hm => x_asg ?_
  refine (ev_lst [] ea_nil) _ _ _ _ _ hA fun v H hA => ?_
  refine f_setlt (e := []) (fun t => .own none (.lst (List.map eI t))) hA (fun t j z => nomatch z) rfl hm (fun numbers_1 => ?_)
  change BJ K _ [some (.dat ((eL eI) a)), some (.own none (.lst (List.map eI numbers_1))), none, none, none, none, none] _ _ _ _ _
  refine fun g σ H D hA hm => ?_
  refine x_forR1 ?_
  refine (ev_cb2 (ev_cb1 (ev_var rfl) (o1_lenT a eI (.l .dat))) ev_int o2_min) _ _ _ _ _ hA fun v H hA => ?_
  refine f_rng1 (b := (minI ((a).length : Int) (63 : Int))) hA hm fun hm => f_for (e := eI) (fun (s3 : (List Int)) => [some (.dat ((eL eI) a)), some (.own none (.lst (List.map eI s3))), none, none, none, none, none]) (s0 := numbers_1) (.s (.s (.d (.d (.d (.d (.d .nil))))))) hm (hb_of (e := eI) (js := [2]) (ps := fun b4 => [eI b4]) (fun b => tj_name) (hjl (n := 7) (fun s => rfl) (by decide)) (fun s3 b4 => ?_)) (fun s3 => ?_)
  ·
    change BJ K _ [some (.dat ((eL eI) a)), some (.own none (.lst (List.map eI s3))), some (.dat (eI b4)), none, none, none, none] _ _ _ _ _
    refine fun g σ H D hA hm => x_asg ?_
    refine x_cb1 ?_
    refine x_op ?_
    refine (ev_var rfl) _ _ _ _ _ hA fun v H hA => ?_
    refine (ev_var rfl) _ _ _ _ _ hA fun v H hA => ?_
    refine f_o2m (o2_idxL (xs := a) (e := eI) .dat) hA hm fun t5 v H hA hm => ?_
    refine o1_int _ _ _ _ _ _ hA fun v H hA => ?_
    refine f_setgo hA (fun j z => nomatch z) rfl hm ?_
    change BJ K _ [some (.dat ((eL eI) a)), some (.own none (.lst (List.map eI s3))), some (.dat (eI b4)), some (.dat (eI t5)), none, none, none] _ _ _ _ _
    refine fun g σ H D hA hm => x_asg ?_
    refine ev_int _ _ _ _ _ hA fun v H hA => ?_
    refine f_setlt (e := (0 : Int)) (fun t => .dat (eI t)) hA (fun t j z => nomatch z) rfl hm (fun turned_6 => ?_)
    change BJ K _ [some (.dat ((eL eI) a)), some (.own none (.lst (List.map eI s3))), some (.dat (eI b4)), some (.dat (eI t5)), some (.dat (eI turned_6)), none, none] _ _ _ _ _
    refine bj_seq (n1 := fun (s7 : (Int × Int)) => [some (.dat ((eL eI) a)), some (.own none (.lst (List.map eI s3))), some (.dat (eI b4)), some (.dat (eI s7.1)), some (.dat (eI s7.2)), none, none]) ?_ (fun s7 => ?_)
    ·
      refine bj_if (evb_test (ev_op (ev_var rfl) ev_int o2_c0)) ?_ ?_
      ·
        refine fun g σ H D hA hm => x_asg ?_
        refine (ev_op ev_int (ev_var rfl) o2_i0) _ _ _ _ _ hA fun v H hA => ?_
        refine f_setlt (e := ((0 : Int) - t5)) (fun t => .dat (eI t)) hA (fun t j z => nomatch z) rfl hm (fun cell_8 => ?_)
        change BJ K _ [some (.dat ((eL eI) a)), some (.own none (.lst (List.map eI s3))), some (.dat (eI b4)), some (.dat (eI cell_8)), some (.dat (eI turned_6)), none, none] _ _ _ _ _
        refine fun g σ H D hA hm => x_asg ?_
        refine ev_int _ _ _ _ _ hA fun v H hA => ?_
        refine f_setlt (e := (1 : Int)) (fun t => .dat (eI t)) hA (fun t j z => nomatch z) rfl hm (fun turned_9 => ?_)
        change BJ K _ [some (.dat ((eL eI) a)), some (.own none (.lst (List.map eI s3))), some (.dat (eI b4)), some (.dat (eI cell_8)), some (.dat (eI turned_9)), none, none] _ _ _ _ _
        exact bj_nx (a := (cell_8, turned_9)) (.s (.s (.s (.s (.s (.d (.d .nil)))))))
      ·
        exact bj_nx (a := (t5, turned_6)) (.s (.s (.s (.s (.s (.d (.d .nil)))))))
    ·
      change BJ K _ [some (.dat ((eL eI) a)), some (.own none (.lst (List.map eI s3))), some (.dat (eI b4)), some (.dat (eI s7.1)), some (.dat (eI s7.2)), none, none] _ _ _ _ _
      refine bj_ifL (evb_test (ev_op (ev_var rfl) (ev_op ev_int ev_int o2_powK) o2_c0)) ?_ ?_
      ·
        refine bj_assoc ?_
        refine fun g σ H D hA hm => ?_
        refine x_forR1 ?_
        refine ev_int _ _ _ _ _ hA fun v H hA => ?_
        refine f_rng1 (b := (45 : Int)) hA hm fun hm => f_for (e := eI) (fun (s11 : ((List Int) × Int)) => [some (.dat ((eL eI) a)), some (.own none (.lst (List.map eI s11.1))), none, some (.dat (eI s11.2)), none, none, none]) (s0 := (s3, s7.1)) (.s (.s (.d (.s (.d (.d (.d .nil))))))) hm (hb_of (e := eI) (js := [5]) (ps := fun b12 => [eI b12]) (fun b => tj_name) (hjl (n := 7) (fun s => rfl) (by decide)) (fun s11 b12 => ?_)) (fun s11 => ?_)
        ·
          change BJ K _ [some (.dat ((eL eI) a)), some (.own none (.lst (List.map eI s11.1))), none, some (.dat (eI s11.2)), none, some (.dat (eI b12)), none] _ _ _ _ _
          refine bj_ifL (evb_test (ev_op (ev_var rfl) ev_int o2_c0)) ?_ ?_
          ·
            refine bj_assoc ?_
            refine fun g σ H D hA hm => x_drop ?_
            refine x_app rfl hA fun x H hA => ?_
            refine (ev_op (ev_cb1 (ev_var rfl) o1_int) ev_int o2_modK) _ _ _ _ _ hA fun v H hA => ?_
            refine f_appm (xs := s11.1) (e := eI) rfl hA hm fun ys13 H hA hm => ?_
            refine bj_go hA hm ?_
            change BJ K _ [some (.dat ((eL eI) a)), some (.own none (.lst (List.map eI ys13))), none, some (.dat (eI s11.2)), none, some (.dat (eI b12)), none] _ _ _ _ _
            refine bj_assoc ?_
            refine fun g σ H D hA hm => x_asg ?_
            refine (ev_op (ev_var rfl) ev_int o2_divK) _ _ _ _ _ hA fun v H hA => ?_
            refine f_setlt (e := (s11.2 / (60 : Int))) (fun t => .dat (eI t)) hA (fun t j z => nomatch z) rfl hm (fun cell_14 => ?_)
            change BJ K _ [some (.dat ((eL eI) a)), some (.own none (.lst (List.map eI ys13))), none, some (.dat (eI cell_14)), none, some (.dat (eI b12)), none] _ _ _ _ _
            refine bj_pass ?_
            exact bj_nx (a := (ys13, cell_14)) (.s (.s (.d (.s (.d (.d (.d .nil)))))))
          ·
            refine bj_pass ?_
            exact bj_nx (a := (s11.1, s11.2)) (.s (.s (.d (.s (.d (.d (.d .nil)))))))
        ·
          change BJ K _ [some (.dat ((eL eI) a)), some (.own none (.lst (List.map eI s11.1))), none, some (.dat (eI s11.2)), none, none, none] _ _ _ _ _
          refine bj_pass ?_
          exact bj_nx (a := s11.1) (.s (.s (.d (.d (.d (.d (.d .nil)))))))
      ·
        refine bj_assoc ?_
        refine fun g σ H D hA hm => x_asg ?_
        refine (ev_op (ev_cb1 (ev_op (ev_op (ev_op (ev_op (ev_var rfl) ev_int o2_mulK) (ev_op (ev_var rfl) ev_int o2_mulK) o2_i0) (ev_op (ev_var rfl) ev_int o2_mulK) o2_i0) ev_int o2_i0) o1_int) ev_int o2_modK) _ _ _ _ _ hA fun v H hA => ?_
        refine f_setlt (e := (((((s7.1 * (16807 : Int)) + (b4 * (7919 : Int))) + (s7.2 * (104729 : Int))) + (11 : Int)) % (2147483629 : Int))) (fun t => .dat (eI t)) hA (fun t j z => nomatch z) rfl hm (fun seed_15 => ?_)
        change BJ K _ [some (.dat ((eL eI) a)), some (.own none (.lst (List.map eI s3))), some (.dat (eI b4)), some (.dat (eI s7.1)), some (.dat (eI s7.2)), none, some (.dat (eI seed_15))] _ _ _ _ _
        refine bj_assoc ?_
        refine fun g σ H D hA hm => ?_
        refine x_forR1 ?_
        refine ev_int _ _ _ _ _ hA fun v H hA => ?_
        refine f_rng1 (b := (7 : Int)) hA hm fun hm => f_for (e := eI) (fun (s17 : ((List Int) × Int)) => [some (.dat ((eL eI) a)), some (.own none (.lst (List.map eI s17.1))), none, none, none, none, some (.dat (eI s17.2))]) (s0 := (s3, seed_15)) (.s (.s (.d (.d (.d (.d (.s .nil))))))) hm (hb_of (e := eI) (js := [5]) (ps := fun b18 => [eI b18]) (fun b => tj_name) (hjl (n := 7) (fun s => rfl) (by decide)) (fun s17 b18 => ?_)) (fun s17 => ?_)
        ·
          change BJ K _ [some (.dat ((eL eI) a)), some (.own none (.lst (List.map eI s17.1))), none, none, none, some (.dat (eI b18)), some (.dat (eI s17.2))] _ _ _ _ _
          refine fun g σ H D hA hm => x_asg ?_
          refine x_op ?_
          refine x_cb1 ?_
          refine x_op ?_
          refine x_op ?_
          refine (ev_op (ev_var rfl) ev_int o2_mulK) _ _ _ _ _ hA fun v H hA => ?_
          refine x_op ?_
          refine (ev_cb1 (ev_op (ev_var rfl) ev_int o2_divK) o1_int) _ _ _ _ _ hA fun v H hA => ?_
          refine (ev_var rfl) _ _ _ _ _ hA fun v H hA => ?_
          refine f_o2m o2_mul hA hm fun t19 v H hA hm => ?_
          refine o2_i0 _ _ _ _ _ _ _ hA fun v H hA => ?_
          refine ev_int _ _ _ _ _ hA fun v H hA => ?_
          refine o2_i0 _ _ _ _ _ _ _ hA fun v H hA => ?_
          refine o1_int _ _ _ _ _ _ hA fun v H hA => ?_
          refine ev_int _ _ _ _ _ hA fun v H hA => ?_
          refine (o2_modK) _ _ _ _ _ _ _ hA fun v H hA => ?_
          refine f_setlt (e := ((((s17.2 * (39373 : Int)) + t19) + (7919 : Int)) % (2147483629 : Int))) (fun t => .dat (eI t)) hA (fun t j z => nomatch z) rfl hm (fun seed_20 => ?_)
          change BJ K _ [some (.dat ((eL eI) a)), some (.own none (.lst (List.map eI s17.1))), none, none, none, some (.dat (eI b18)), some (.dat (eI seed_20))] _ _ _ _ _
          refine fun g σ H D hA hm => x_drop ?_
          refine x_app rfl hA fun x H hA => ?_
          refine (ev_op (ev_cb1 (ev_op (ev_var rfl) ev_int o2_divK) o1_int) ev_int o2_modK) _ _ _ _ _ hA fun v H hA => ?_
          refine f_appm (xs := s17.1) (e := eI) rfl hA hm fun ys21 H hA hm => ?_
          refine bj_go hA hm ?_
          change BJ K _ [some (.dat ((eL eI) a)), some (.own none (.lst (List.map eI ys21))), none, none, none, some (.dat (eI b18)), some (.dat (eI seed_20))] _ _ _ _ _
          exact bj_nx (a := (ys21, seed_20)) (.s (.s (.d (.d (.d (.d (.s .nil)))))))
        ·
          change BJ K _ [some (.dat ((eL eI) a)), some (.own none (.lst (List.map eI s17.1))), none, none, none, none, some (.dat (eI s17.2))] _ _ _ _ _
          refine bj_pass ?_
          exact bj_nx (a := s17.1) (.s (.s (.d (.d (.d (.d (.d .nil)))))))
  ·
    change BJ K _ [some (.dat ((eL eI) a)), some (.own none (.lst (List.map eI s3))), none, none, none, none, none] _ _ _ _ _
    refine bj_rev (xs := s3) (e := eI) rfl (fun ys22 => ?_)
    change BJ K _ [some (.dat ((eL eI) a)), some (.own none (.lst (List.map eI ys22))), none, none, none, none, none] _ _ _ _ _
    exact bj_retO (r := ys22) (i := 1) rfl rfl (.d .nil)
theorem ok_law_draw (T : Txt K mg Z) : FnOk P w K mg base (L2.CX P w) 1 Z.f_law_draw Z.d_law_draw ["numbers", "many"] (Spec K Z.ec 2 pre_law_draw f_law_draw post_law_draw ret_law_draw) := by
  refine fn_ok T.d_law_draw.F sc_law_draw rfl m_law_draw fun cdv A outer s H E hr => ?_
  refine ⟨_, (pss_cons (ps_if (pt_cmpR op_eq (pe_callB (r := Gv.rLen K) c_len (by rfl) T.z_len (by decide +kernel) (pa_cons (pv 0) pa_nil)) pe_int (nomark _)) (pss_cons (ps_ret pe_int)
  pss_nil) pss_nil)
  (pss_cons (ps_ret (pe_op op_mod (pe_callTy c_int (by rfl) T.z_int (by decide +kernel) (pa_cons (pe_bm0 PySem.F.plainAttrs_list PySem.F.slot_list_pop PySem.F.type_list_pop mt_pop (pv 0)) pa_nil)) (pv 1)))
  pss_nil)), ?_⟩
  intro a as _
  change BJ K _ [some (.own (as[0]?) (.lst (List.map eI a.1))), some (.dat (eI a.2))] _ _ _ _ _
  refine bj_ifL (evb_test (ev_op (ev_cb1 (ev_own rfl) (o1_lenT a.1 eI (.l (.als rfl)))) ev_int o2_eqI)) ?_ ?_
  ·
    refine bj_assoc ?_
    refine fun g σ H D hA hm => x_ret ?_
    refine ev_int _ _ _ _ _ hA fun v H hA => ?_
    exact hm v H _ (hA.weak1 (.s (.d .nil)) fun j z => nomatch z)
  ·
    refine bj_pass ?_
    refine fun g σ H D hA hm => x_ret ?_
    refine x_op ?_
    refine x_cb1 ?_
    refine f_popm (xs := a.1) (e := eI) rfl hA hm fun t1 v H hA hm => ?_
    replace hA : At K g [some (.own (as[0]?) (.lst (List.map eI t1.2))), some (.dat (eI a.2))] _ _ _ := hA
    refine o1_int _ _ _ _ _ _ hA fun v H hA => ?_
    refine (ev_var rfl) _ _ _ _ _ hA fun v H hA => ?_
    refine f_o2m o2_mod hA hm fun t2 v H hA hm => ?_
    exact hm v H _ (hA.weak1 (.s (.d .nil)) fun j z => nomatch z)
theorem ok_law_int (T : Txt K mg Z) : FnOk P w K mg base (L2.CX P w) 1 Z.f_law_int Z.d_law_int ["value"] (Spec K Z.ec 1 pre_law_int f_law_int post_law_int ret_law_int) := by
  refine fn_ok T.d_law_int.F sc_law_int rfl m_law_int fun cdv A outer s H E hr => ?_
  refine ⟨_, (pss_cons (ps_ret (pe_and (pe_callB (r := rIsi K) call_isi (by rfl) T.z_isinstance (by decide +kernel) (pa_cons (pv 0) (pa_cons (pe_bltn (v := .ty "int") (u := .type "int") (by rfl) T.z_int (by decide +kernel) rfl) pa_nil))) (pe_one (pe_not (pe_callB (r := rIsi K) call_isi (by rfl) T.z_isinstance (by decide +kernel) (pa_cons (pv 0) (pa_cons (pe_bltn (v := .ty "bool") (u := .type "bool") (by rfl) T.z_bool (by decide +kernel) rfl) pa_nil)))))))
  pss_nil), ?_⟩
  intro a as _
  change BJ K _ [some (.dat (eD a))] _ _ _ _ _
  refine fun g σ H D hA hm => x_ret ?_
  refine (ev_andV (ev_isi (d := a) .int (ev_var rfl) dpt_d) (ev_notV (ev_isi (d := a) .bool (ev_var rfl) dpt_d))) _ _ _ _ _ hA fun v H hA => ?_
  exact hm v H _ (hA.weak1 (.d .nil) fun j z => nomatch z)
theorem ok_law_pool (T : Txt K mg Z) : FnOk P w K mg base (L2.CX P w) 2 Z.f_law_pool Z.d_law_pool ["numbers", "total"] (Spec K Z.ec 2 pre_law_pool f_law_pool post_law_pool ret_law_pool) := by
  refine fn_ok T.d_law_pool.F sc_law_pool rfl m_law_pool fun cdv A outer s H E hr => ?_
  refine ⟨_, (pss_cons (ps_set (i := 2) sc_law_pool.nd rfl (Or.inl rfl) pe_str)
  (pss_cons (ps_set (i := 3) sc_law_pool.nd rfl (Or.inl rfl) (pe_lst pa_nil))
  (pss_cons (ps_for (passes_of rfl) rfl (pi_range1 (by rfl) T.z_range (pa_cons (pv 1) pa_nil)) (pg_name (i := 4) sc_law_pool.nd rfl (Or.inl rfl)) (pss_cons (ps_set (i := 5) sc_law_pool.nd rfl (Or.inl rfl) (pe_ix ix_str (pv 2) (pe_callS (ok_law_draw (K := K) T) (hr.mono (by decide)) (by rfl) T.d_law_draw.g T.d_law_draw.F.kp T.d_law_draw.b (fun σ => passAt (takes_of rfl rfl rfl rfl) σ) (pa_cons (pv 0) (pa_cons pe_int pa_nil))) (fun _ _ => rfl)))
  (pss_cons (ps_set (i := 6) sc_law_pool.nd rfl (Or.inl rfl) (pe_callS (ok_law_draw (K := K) T) (hr.mono (by decide)) (by rfl) T.d_law_draw.g T.d_law_draw.F.kp T.d_law_draw.b (fun σ => passAt (takes_of rfl rfl rfl rfl) σ) (pa_cons (pv 0) (pa_cons pe_int pa_nil))))
  (pss_cons (ps_if (pt_cmpR op_eq (pv 6) pe_int (nomark _)) (pss_cons (ps_set (i := 5) sc_law_pool.nd rfl (Or.inl rfl) (pe_op p_addS (pe_op p_addS (pv 5) pe_str) (pe_ix ix_str (pv 2) (pe_callS (ok_law_draw (K := K) T) (hr.mono (by decide)) (by rfl) T.d_law_draw.g T.d_law_draw.F.kp T.d_law_draw.b (fun σ => passAt (takes_of rfl rfl rfl rfl) σ) (pa_cons (pv 0) (pa_cons pe_int pa_nil))) (fun _ _ => rfl))))
  pss_nil) pss_nil)
  (pss_cons (ps_if (pt_cmpR op_eq (pv 6) pe_int (nomark _)) (pss_cons (ps_set (i := 5) sc_law_pool.nd rfl (Or.inl rfl) (pe_op p_addS (pv 5) (pe_ix ix_str (pv 2) (pe_callS (ok_law_draw (K := K) T) (hr.mono (by decide)) (by rfl) T.d_law_draw.g T.d_law_draw.F.kp T.d_law_draw.b (fun σ => passAt (takes_of rfl rfl rfl rfl) σ) (pa_cons (pv 0) (pa_cons pe_int pa_nil))) (fun _ _ => rfl))))
  pss_nil) pss_nil)
  (pss_cons (ps_expr (pe_bm PySem.F.plainAttrs_list PySem.F.slot_list_append PySem.F.type_list_append mt_append (pv 3) (pa_cons (pe_op p_addS (pv 5) (pe_callTy c_str (by rfl) T.z_str (by decide +kernel) (pa_cons (pv 4) pa_nil))) pa_nil)))
  pss_nil))))))
  (pss_cons (ps_ret (pv 3))
  pss_nil)))), ?_⟩
  intro a as _
  change BJ K _ [some (.own (as[0]?) (.lst (List.map eI a.1))), some (.dat (eI a.2)), none, none, none, none, none] _ _ _ _ _
  refine fun g σ H D hA hm => x_asg ?_
  refine ev_str _ _ _ _ _ hA fun v H hA => ?_
  refine f_setlt (e := ("xabkqmtzgw" : Str)) (fun t => .dat (eS t)) hA (fun t j z => nomatch z) rfl hm (fun letters_1 => ?_)
  change BJ K _ [some (.own (as[0]?) (.lst (List.map eI a.1))), some (.dat (eI a.2)), some (.dat (eS letters_1)), none, none, none, none] _ _ _ _ _
  refine fun g σ H D hA hm => x_asg ?_
  refine (ev_lst [] ea_nil) _ _ _ _ _ hA fun v H hA => ?_
  refine f_setlt (e := []) (fun t => .own none (.lst (List.map eS t))) hA (fun t j z => nomatch z) rfl hm (fun pool_2 => ?_)
  change BJ K _ [some (.own (as[0]?) (.lst (List.map eI a.1))), some (.dat (eI a.2)), some (.dat (eS letters_1)), some (.own none (.lst (List.map eS pool_2))), none, none, none] _ _ _ _ _
  refine fun g σ H D hA hm => ?_
  refine x_forR1 ?_
  refine (ev_var rfl) _ _ _ _ _ hA fun v H hA => ?_
  refine f_rng1 (b := a.2) hA hm fun hm => f_for (e := eI) (fun (s4 : ((List Int) × (List Str))) => [some (.own (as[0]?) (.lst (List.map eI s4.1))), none, some (.dat (eS letters_1)), some (.own none (.lst (List.map eS s4.2))), none, none, none]) (s0 := (a.1, pool_2)) (.s (.d (.s (.s (.d (.d (.d .nil))))))) hm (hb_of (e := eI) (js := [4]) (ps := fun b5 => [eI b5]) (fun b => tj_name) (hjl (n := 7) (fun s => rfl) (by decide)) (fun s4 b5 => ?_)) (fun s4 => ?_)
  ·
    change BJ K _ [some (.own (as[0]?) (.lst (List.map eI s4.1))), none, some (.dat (eS letters_1)), some (.own none (.lst (List.map eS s4.2))), some (.dat (eI b5)), none, none] _ _ _ _ _
    refine fun g σ H D hA hm => x_asg ?_
    refine x_op ?_
    refine (ev_var rfl) _ _ _ _ _ hA fun v H hA => ?_
    refine x_call2 ?_
    refine (ev_own rfl) _ _ _ _ _ hA fun v H hA => ?_
    refine ev_int _ _ _ _ _ hA fun v H hA => ?_
    refine f_call [.o 0 (as[0]?) (.lst (List.map eI s4.1)), .d (eI (10 : Int))] (s4.1, (10 : Int)) (fun r => [.lst (List.map eI r.2)]) hA rfl rfl ⟨rfl, True.intro⟩ (fun as h => match as, h with | [_], _ => rfl) (fun _ => rfl) (fun r as h => match as, h with | [_], _ => rfl) (fun r j z => nomatch z) .nil (hm.bindR.imp (fun r6 hm v H hA => ?_) fun _ q => q)
    replace hA : At K g [some (.own (as[0]?) (.lst (List.map eI r6.2))), none, some (.dat (eS letters_1)), some (.own none (.lst (List.map eS s4.2))), some (.dat (eI b5)), none, none] _ _ _ := hA
    refine f_o2m o2_chS hA hm fun t7 v H hA hm => ?_
    refine f_setgo hA (fun j z => nomatch z) rfl hm ?_
    change BJ K _ [some (.own (as[0]?) (.lst (List.map eI r6.2))), none, some (.dat (eS letters_1)), some (.own none (.lst (List.map eS s4.2))), some (.dat (eI b5)), some (.dat (eS t7)), none] _ _ _ _ _
    refine fun g σ H D hA hm => x_asg ?_
    refine x_call2 ?_
    refine (ev_own rfl) _ _ _ _ _ hA fun v H hA => ?_
    refine ev_int _ _ _ _ _ hA fun v H hA => ?_
    refine f_call [.o 0 (as[0]?) (.lst (List.map eI r6.2)), .d (eI (6 : Int))] (r6.2, (6 : Int)) (fun r => [.lst (List.map eI r.2)]) hA rfl rfl ⟨rfl, True.intro⟩ (fun as h => match as, h with | [_], _ => rfl) (fun _ => rfl) (fun r as h => match as, h with | [_], _ => rfl) (fun r j z => nomatch z) .nil (hm.bindR.imp (fun r8 hm v H hA => ?_) fun _ q => q)
    replace hA : At K g [some (.own (as[0]?) (.lst (List.map eI r8.2))), none, some (.dat (eS letters_1)), some (.own none (.lst (List.map eS s4.2))), some (.dat (eI b5)), some (.dat (eS t7)), none] _ _ _ := hA
    refine f_setgo hA (fun j z => nomatch z) rfl hm ?_
    change BJ K _ [some (.own (as[0]?) (.lst (List.map eI r8.2))), none, some (.dat (eS letters_1)), some (.own none (.lst (List.map eS s4.2))), some (.dat (eI b5)), some (.dat (eS t7)), some (.dat (eI r8.1))] _ _ _ _ _
    refine bj_seq (n1 := fun (s9 : ((List Int) × Str)) => [some (.own (as[0]?) (.lst (List.map eI s9.1))), none, some (.dat (eS letters_1)), some (.own none (.lst (List.map eS s4.2))), some (.dat (eI b5)), some (.dat (eS s9.2)), some (.dat (eI r8.1))]) ?_ (fun s9 => ?_)
    ·
      refine bj_if (evb_test (ev_op (ev_var rfl) ev_int o2_eqI)) ?_ ?_
      ·
        refine fun g σ H D hA hm => x_asg ?_
        refine x_op ?_
        refine x_op ?_
        refine (ev_var rfl) _ _ _ _ _ hA fun v H hA => ?_
        refine ev_str _ _ _ _ _ hA fun v H hA => ?_
        refine f_o2m o2_addS hA hm fun t10 v H hA hm => ?_
        refine x_op ?_
        refine (ev_var rfl) _ _ _ _ _ hA fun v H hA => ?_
        refine x_call2 ?_
        refine (ev_own rfl) _ _ _ _ _ hA fun v H hA => ?_
        refine ev_int _ _ _ _ _ hA fun v H hA => ?_
        refine f_call [.o 0 (as[0]?) (.lst (List.map eI r8.2)), .d (eI (10 : Int))] (r8.2, (10 : Int)) (fun r => [.lst (List.map eI r.2)]) hA rfl rfl ⟨rfl, True.intro⟩ (fun as h => match as, h with | [_], _ => rfl) (fun _ => rfl) (fun r as h => match as, h with | [_], _ => rfl) (fun r j z => nomatch z) .nil (hm.bindR.imp (fun r11 hm v H hA => ?_) fun _ q => q)
        replace hA : At K g [some (.own (as[0]?) (.lst (List.map eI r11.2))), none, some (.dat (eS letters_1)), some (.own none (.lst (List.map eS s4.2))), some (.dat (eI b5)), some (.dat (eS t7)), some (.dat (eI r8.1))] _ _ _ := hA
        refine f_o2m o2_chS hA hm fun t12 v H hA hm => ?_
        refine f_o2m o2_addS hA hm fun t13 v H hA hm => ?_
        refine f_setgo hA (fun j z => nomatch z) rfl hm ?_
        change BJ K _ [some (.own (as[0]?) (.lst (List.map eI r11.2))), none, some (.dat (eS letters_1)), some (.own none (.lst (List.map eS s4.2))), some (.dat (eI b5)), some (.dat (eS t13)), some (.dat (eI r8.1))] _ _ _ _ _
        exact bj_nx (a := (r11.2, t13)) (.s (.d (.s (.s (.s (.s (.s .nil)))))))
      ·
        exact bj_nx (a := (r8.2, t7)) (.s (.d (.s (.s (.s (.s (.s .nil)))))))
    ·
      change BJ K _ [some (.own (as[0]?) (.lst (List.map eI s9.1))), none, some (.dat (eS letters_1)), some (.own none (.lst (List.map eS s4.2))), some (.dat (eI b5)), some (.dat (eS s9.2)), some (.dat (eI r8.1))] _ _ _ _ _
      refine bj_seq (n1 := fun (s14 : ((List Int) × Str)) => [some (.own (as[0]?) (.lst (List.map eI s14.1))), none, some (.dat (eS letters_1)), some (.own none (.lst (List.map eS s4.2))), some (.dat (eI b5)), some (.dat (eS s14.2)), none]) ?_ (fun s14 => ?_)
      ·
        refine bj_if (evb_test (ev_op (ev_var rfl) ev_int o2_eqI)) ?_ ?_
        ·
          refine fun g σ H D hA hm => x_asg ?_
          refine x_op ?_
          refine (ev_var rfl) _ _ _ _ _ hA fun v H hA => ?_
          refine x_op ?_
          refine (ev_var rfl) _ _ _ _ _ hA fun v H hA => ?_
          refine x_call2 ?_
          refine (ev_own rfl) _ _ _ _ _ hA fun v H hA => ?_
          refine ev_int _ _ _ _ _ hA fun v H hA => ?_
          refine f_call [.o 0 (as[0]?) (.lst (List.map eI s9.1)), .d (eI (10 : Int))] (s9.1, (10 : Int)) (fun r => [.lst (List.map eI r.2)]) hA rfl rfl ⟨rfl, True.intro⟩ (fun as h => match as, h with | [_], _ => rfl) (fun _ => rfl) (fun r as h => match as, h with | [_], _ => rfl) (fun r j z => nomatch z) .nil (hm.bindR.imp (fun r15 hm v H hA => ?_) fun _ q => q)
          replace hA : At K g [some (.own (as[0]?) (.lst (List.map eI r15.2))), none, some (.dat (eS letters_1)), some (.own none (.lst (List.map eS s4.2))), some (.dat (eI b5)), some (.dat (eS s9.2)), some (.dat (eI r8.1))] _ _ _ := hA
          refine f_o2m o2_chS hA hm fun t16 v H hA hm => ?_
          refine f_o2m o2_addS hA hm fun t17 v H hA hm => ?_
          refine f_setgo hA (fun j z => nomatch z) rfl hm ?_
          change BJ K _ [some (.own (as[0]?) (.lst (List.map eI r15.2))), none, some (.dat (eS letters_1)), some (.own none (.lst (List.map eS s4.2))), some (.dat (eI b5)), some (.dat (eS t17)), some (.dat (eI r8.1))] _ _ _ _ _
          exact bj_nx (a := (r15.2, t17)) (.s (.d (.s (.s (.s (.s (.d .nil)))))))
        ·
          exact bj_nx (a := (s9.1, s9.2)) (.s (.d (.s (.s (.s (.s (.d .nil)))))))
      ·
        change BJ K _ [some (.own (as[0]?) (.lst (List.map eI s14.1))), none, some (.dat (eS letters_1)), some (.own none (.lst (List.map eS s4.2))), some (.dat (eI b5)), some (.dat (eS s14.2)), none] _ _ _ _ _
        refine fun g σ H D hA hm => x_drop ?_
        refine x_app rfl hA fun x H hA => ?_
        refine x_op ?_
        refine (ev_var rfl) _ _ _ _ _ hA fun v H hA => ?_
        refine x_cb1 ?_
        refine (ev_var rfl) _ _ _ _ _ hA fun v H hA => ?_
        refine f_o1m o1_str hA hm fun t18 v H hA hm => ?_
        refine f_o2m o2_addS hA hm fun t19 v H hA hm => ?_
        refine f_appm (xs := s4.2) (e := eS) rfl hA hm fun ys20 H hA hm => ?_
        refine bj_go hA hm ?_
        change BJ K _ [some (.own (as[0]?) (.lst (List.map eI s14.1))), none, some (.dat (eS letters_1)), some (.own none (.lst (List.map eS ys20))), some (.dat (eI b5)), some (.dat (eS s14.2)), none] _ _ _ _ _
        exact bj_nx (a := (s14.1, ys20)) (.s (.d (.s (.s (.d (.d (.d .nil)))))))
  ·
    change BJ K _ [some (.own (as[0]?) (.lst (List.map eI s4.1))), none, some (.dat (eS letters_1)), some (.own none (.lst (List.map eS s4.2))), none, none, none] _ _ _ _ _
    refine bj_frz (i := 3) rfl ?_
    change BJ K _ [some (.own (as[0]?) (.lst (List.map eI s4.1))), none, some (.dat (eS letters_1)), some (.dat ((eL eS) s4.2)), none, none, none] _ _ _ _ _
    refine fun g σ H D hA hm => x_ret ?_
    refine (ev_var rfl) _ _ _ _ _ hA fun v H hA => ?_
    exact hm v H _ (hA.weak1 (.s (.d .nil)) fun j z => nomatch z)
theorem ok_law_frame (T : Txt K mg Z) : FnOk P w K mg base (L2.CX P w) 2 Z.f_law_frame Z.d_law_frame ["numbers", "pool", "many"] (Spec K Z.ec 3 pre_law_frame f_law_frame post_law_frame ret_law_frame) := by
  refine fn_ok T.d_law_frame.F sc_law_frame rfl m_law_frame fun cdv A outer s H E hr => ?_
  refine ⟨_, (pss_cons (ps_set (i := 3) sc_law_frame.nd rfl (Or.inr rfl) (pe_ix (r := rIxL K) ix_list (pe_lst (pa_cons pe_int (pa_cons pe_int (pa_cons pe_int (pa_cons pe_int pa_nil))))) (pe_callS (ok_law_draw (K := K) T) (hr.mono (by decide)) (by rfl) T.d_law_draw.g T.d_law_draw.F.kp T.d_law_draw.b (fun σ => passAt (takes_of rfl rfl rfl rfl) σ) (pa_cons (pv 0) (pa_cons pe_int pa_nil))) (fun _ _ => rfl)))
  (pss_cons (ps_set (i := 4) sc_law_frame.nd rfl (Or.inl rfl) (pe_lst pa_nil))
  (pss_cons (ps_for (passes_of rfl) rfl (pi_range1 (by rfl) T.z_range (pa_cons (pv 2) pa_nil)) (pg_name (i := 5) sc_law_frame.nd rfl (Or.inl rfl)) (pss_cons (ps_setLc (i := 6) (own := [("name", 7)]) (g := gName 7) rfl sc_law_frame.nd rfl rfl (sw_true rfl rfl rfl (by decide +kernel)) (pi_list (pe_slice (r := rSlL K) sl_list (pv 1) po_none (po_some (pe_op op_add (pv 2) pe_int)))) (blkOk_by (N := ["numbers", "pool", "many", "dense", "frame", "k", "reads", "name"]) (sc := defScope st_law_frame) (by decide +kernel)) (fun _ _ _ _ _ => (pg_name (i := 7) sc_law_frame.nd rfl (Or.inl rfl))) (fun _ _ _ _ _ => (pts_one (pt_cmpR op_ge (pe_callS (ok_law_draw (K := K) T) (hr.mono (by decide)) (by rfl) T.d_law_draw.g T.d_law_draw.F.kp T.d_law_draw.b (fun σ => passAt takes0 σ) (pa_cons (pv 0) (pa_cons pe_int pa_nil))) (pe_op op_sub pe_int (pv 3)) (nomark _)))) (fun _ _ _ _ _ => (pv 7)))
  (pss_cons (ps_expr (pe_bm PySem.F.plainAttrs_list PySem.F.slot_list_append PySem.F.type_list_append mt_append (pv 4) (pa_cons (pe_tup (pa_cons (pe_callTy (r := rTuple K) c_tuple (by rfl) T.z_tuple (by decide +kernel) (pa_cons (pe_callB (r := rSortedS K) cr_sortedS (by rfl) T.z_sorted (by decide +kernel) (pa_cons (pv 6) pa_nil)) pa_nil)) (pa_cons (pe_ix (r := rIxL K) ix_list (pv 1) (pv 5) (fun _ _ => rfl)) pa_nil))) pa_nil)))
  pss_nil)))
  (pss_cons (ps_ret (pe_callTy (r := rTuple K) c_tuple (by rfl) T.z_tuple (by decide +kernel) (pa_cons (pv 4) pa_nil)))
  pss_nil)))), ?_⟩
  intro a as _
  change BJ K _ [some (.own (as[0]?) (.lst (List.map eI a.1))), some (.dat ((eL eS) a.2.1)), some (.dat (eI a.2.2)), none, none, none, none, none] _ _ _ _ _
  refine fun g σ H D hA hm => x_asg ?_
  refine x_op ?_
  refine (ev_lst [eI (1 : Int), eI (2 : Int), eI (4 : Int), eI (6 : Int)] (ea_cons ev_int (ea_cons ev_int (ea_cons ev_int (ea_cons ev_int ea_nil))))) _ _ _ _ _ hA fun v H hA => ?_
  refine x_call2 ?_
  refine (ev_own rfl) _ _ _ _ _ hA fun v H hA => ?_
  refine ev_int _ _ _ _ _ hA fun v H hA => ?_
  refine f_call [.o 0 (as[0]?) (.lst (List.map eI a.1)), .d (eI (4 : Int))] (a.1, (4 : Int)) (fun r => [.lst (List.map eI r.2)]) hA rfl rfl ⟨rfl, True.intro⟩ (fun as h => match as, h with | [_], _ => rfl) (fun _ => rfl) (fun r as h => match as, h with | [_], _ => rfl) (fun r j z => nomatch z) .nil (hm.bindR.imp (fun r1 hm v H hA => ?_) fun _ q => q)
  replace hA : At K g [some (.own (as[0]?) (.lst (List.map eI r1.2))), some (.dat ((eL eS) a.2.1)), some (.dat (eI a.2.2)), none, none, none, none, none] _ _ _ := hA
  refine f_o2m (o2_idxL (xs := [(1 : Int), (2 : Int), (4 : Int), (6 : Int)]) (e := eI) .own) hA hm fun t2 v H hA hm => ?_
  refine f_setgo hA (fun j z => nomatch z) rfl hm ?_
  change BJ K _ [some (.own (as[0]?) (.lst (List.map eI r1.2))), some (.dat ((eL eS) a.2.1)), some (.dat (eI a.2.2)), some (.dat (eI t2)), none, none, none, none] _ _ _ _ _
  refine fun g σ H D hA hm => x_asg ?_
  refine (ev_lst [] ea_nil) _ _ _ _ _ hA fun v H hA => ?_
  refine f_setlt (e := []) (fun t => .own none (.lst (List.map (eP2 (eT eS) eS) t))) hA (fun t j z => nomatch z) rfl hm (fun frame_3 => ?_)
  change BJ K _ [some (.own (as[0]?) (.lst (List.map eI r1.2))), some (.dat ((eL eS) a.2.1)), some (.dat (eI a.2.2)), some (.dat (eI t2)), some (.own none (.lst (List.map (eP2 (eT eS) eS) frame_3))), none, none, none] _ _ _ _ _
  refine fun g σ H D hA hm => ?_
  refine x_forR1 ?_
  refine (ev_var rfl) _ _ _ _ _ hA fun v H hA => ?_
  refine f_rng1 (b := a.2.2) hA hm fun hm => f_for (e := eI) (fun (s5 : ((List Int) × (List ((List Str) × Str)))) => [some (.own (as[0]?) (.lst (List.map eI s5.1))), some (.dat ((eL eS) a.2.1)), some (.dat (eI a.2.2)), some (.dat (eI t2)), some (.own none (.lst (List.map (eP2 (eT eS) eS) s5.2))), none, none, none]) (s0 := (r1.2, frame_3)) (.s (.s (.s (.s (.s (.d (.d (.d .nil)))))))) hm (hb_of (e := eI) (js := [5]) (ps := fun b6 => [eI b6]) (fun b => tj_name) (hjl (n := 8) (fun s => rfl) (by decide)) (fun s5 b6 => ?_)) (fun s5 => ?_)
  ·
    change BJ K _ [some (.own (as[0]?) (.lst (List.map eI s5.1))), some (.dat ((eL eS) a.2.1)), some (.dat (eI a.2.2)), some (.dat (eI t2)), some (.own none (.lst (List.map (eP2 (eT eS) eS) s5.2))), some (.dat (eI b6)), none, none] _ _ _ _ _
    refine fun g σ H D hA hm => x_asg ?_
    refine x_lcL ?_
    refine (ev_slice (ev_var rfl) evo_none (evo_some (ev_op (ev_var rfl) ev_int o2_i0)) (o1_cutLT (xs := a.2.1) (e := eS) .dat)) _ _ _ _ _ hA fun v H hA => ?_
    replace hA := hA.frz
    refine wk_list (xs := (cutL a.2.1 none (some (a.2.2 + (1 : Int))))) (e := eS) hA (f_lcW (e := eS) (enc := eS) (js := [7]) (ps := fun b7 => [eS b7]) (fun (s8 : (List Int)) => [some (.own (as[0]?) (.lst (List.map eI s8))), some (.dat ((eL eS) a.2.1)), some (.dat (eI a.2.2)), some (.dat (eI t2)), some (.own none (.lst (List.map (eP2 (eT eS) eS) s5.2))), some (.dat (eI b6)), none, none]) (s5.1) (fun b => tj_name) (by decide) (hnl fun s => rfl) (hnl fun s => rfl) (by decide) (lj_fwd fun s8 b7 g σ τ H Q Qn hA hm => ?_) hm (fun r9 v H hA hm => ?_))
    ·
      replace hA : At K g [some (.own (as[0]?) (.lst (List.map eI s8))), some (.dat ((eL eS) a.2.1)), some (.dat (eI a.2.2)), some (.dat (eI t2)), some (.own none (.lst (List.map (eP2 (eT eS) eS) s5.2))), some (.dat (eI b6)), none, some (.dat (eS b7))] _ _ _ := hA
      refine x_test ?_
      refine x_op ?_
      refine x_call2 ?_
      refine (ev_own rfl) _ _ _ _ _ hA fun v H hA => ?_
      refine ev_int _ _ _ _ _ hA fun v H hA => ?_
      refine f_call [.o 0 (as[0]?) (.lst (List.map eI s8)), .d (eI (8 : Int))] (s8, (8 : Int)) (fun r => [.lst (List.map eI r.2)]) hA rfl rfl ⟨rfl, True.intro⟩ (fun as h => match as, h with | [_], _ => rfl) (fun _ => rfl) (fun r as h => match as, h with | [_], _ => rfl) (fun r j z => nomatch z) .nil (hm.bindR.imp (fun r10 hm v H hA => ?_) fun _ q => q.elim)
      replace hA : At K g [some (.own (as[0]?) (.lst (List.map eI r10.2))), some (.dat ((eL eS) a.2.1)), some (.dat (eI a.2.2)), some (.dat (eI t2)), some (.own none (.lst (List.map (eP2 (eT eS) eS) s5.2))), some (.dat (eI b6)), none, some (.dat (eS b7))] _ _ _ := hA
      refine (ev_op ev_int (ev_var rfl) o2_i0) _ _ _ _ _ hA fun v H hA => ?_
      refine o2_c0 _ _ _ _ _ _ _ hA fun v H hA => ?_
      refine f_tst (P := fun c H1 => _) hA fun hA => ?_
      refine f_pick hm (fun hm => ?_) (fun hm => ?_)
      ·
        refine (ev_var rfl) _ _ _ _ _ hA fun v H hA => ?_
        exact hm v H hA
      ·
        exact hm H hA
    ·
      replace hA : At K g [some (.own (as[0]?) (.lst (List.map eI r9.1))), some (.dat ((eL eS) a.2.1)), some (.dat (eI a.2.2)), some (.dat (eI t2)), some (.own none (.lst (List.map (eP2 (eT eS) eS) s5.2))), some (.dat (eI b6)), none, none] _ _ _ := hA
      replace hA := hA.frz
      refine f_setgo hA (fun j z => nomatch z) rfl hm ?_
      change BJ K _ [some (.own (as[0]?) (.lst (List.map eI r9.1))), some (.dat ((eL eS) a.2.1)), some (.dat (eI a.2.2)), some (.dat (eI t2)), some (.own none (.lst (List.map (eP2 (eT eS) eS) s5.2))), some (.dat (eI b6)), some (.dat ((eL eS) r9.2)), none] _ _ _ _ _
      refine fun g σ H D hA hm => x_drop ?_
      refine x_app rfl hA fun x H hA => ?_
      refine x_tup ?_
      refine x_cons ?_
      refine x_cb1 ?_
      refine x_cb1 ?_
      refine (ev_var rfl) _ _ _ _ _ hA fun v H hA => ?_
      refine f_o1m (o1_sortedS (xs := r9.2) .dat) hA hm fun t11 v H hA hm => ?_
      refine o1_tuple (.l .own) _ _ _ _ _ _ hA fun v H hA => ?_
      refine x_cons ?_
      refine x_op ?_
      refine (ev_var rfl) _ _ _ _ _ hA fun v H hA => ?_
      refine (ev_var rfl) _ _ _ _ _ hA fun v H hA => ?_
      refine f_o2m (o2_idxL (xs := a.2.1) (e := eS) .dat) hA hm fun t12 v H hA hm => ?_
      refine x_nil ?_
      refine f_tup (vs := [_, _]) [(eT eS) t11, eS t12] hA rfl (Nat.le_of_ble_eq_true rfl) fun v H hA => ?_
      refine f_appm (xs := s5.2) (e := (eP2 (eT eS) eS)) rfl hA hm fun ys13 H hA hm => ?_
      refine bj_go hA hm ?_
      change BJ K _ [some (.own (as[0]?) (.lst (List.map eI r9.1))), some (.dat ((eL eS) a.2.1)), some (.dat (eI a.2.2)), some (.dat (eI t2)), some (.own none (.lst (List.map (eP2 (eT eS) eS) ys13))), some (.dat (eI b6)), some (.dat ((eL eS) r9.2)), none] _ _ _ _ _
      exact bj_nx (a := (r9.1, ys13)) (.s (.s (.s (.s (.s (.d (.d (.d .nil))))))))
  ·
    change BJ K _ [some (.own (as[0]?) (.lst (List.map eI s5.1))), some (.dat ((eL eS) a.2.1)), some (.dat (eI a.2.2)), some (.dat (eI t2)), some (.own none (.lst (List.map (eP2 (eT eS) eS) s5.2))), none, none, none] _ _ _ _ _
    refine fun g σ H D hA hm => x_ret ?_
    refine (ev_cb1 (ev_own rfl) (o1_tuple (.l (.als rfl)))) _ _ _ _ _ hA fun v H hA => ?_
    exact hm v H _ (hA.weak1 (.s (.d (.d .nil))) fun j z => nomatch z)
theorem ok_law_touch (T : Txt K mg Z) : FnOk P w K mg base (L2.CX P w) 1 Z.f_law_touch Z.d_law_touch ["frame", "low", "high"] (Spec K Z.ec 3 pre_law_touch f_law_touch post_law_touch ret_law_touch) := by
  refine fn_ok T.d_law_touch.F sc_law_touch rfl m_law_touch fun cdv A outer s H E hr => ?_
  refine ⟨_, (pss_cons (ps_ret (pe_or (pe_cmpR (r := rIn K false) op_in_seq (pe_ix (r := rIxT K) ix_tup (pe_ix (r := rIxT K) ix_tup (pv 0) (pv 1) (fun _ _ => rfl)) pe_int (fun _ _ => rfl)) (pe_ix (r := rIxT K) ix_tup (pe_ix (r := rIxT K) ix_tup (pv 0) (pv 2) (fun _ _ => rfl)) pe_int (fun _ _ => rfl)) rfl) (pe_one (pe_cmpR (r := rIn K false) op_in_seq (pe_ix (r := rIxT K) ix_tup (pe_ix (r := rIxT K) ix_tup (pv 0) (pv 2) (fun _ _ => rfl)) pe_int (fun _ _ => rfl)) (pe_ix (r := rIxT K) ix_tup (pe_ix (r := rIxT K) ix_tup (pv 0) (pv 1) (fun _ _ => rfl)) pe_int (fun _ _ => rfl)) rfl))))
  pss_nil), ?_⟩
  intro a as _
  change BJ K _ [some (.dat ((eT (eP2 (eT eS) eS)) a.1)), some (.dat (eI a.2.1)), some (.dat (eI a.2.2))] _ _ _ _ _
  refine fun g σ H D hA hm => x_ret ?_
  refine f_joinV (fun (s : Bool) => [some (.dat ((eT (eP2 (eT eS) eS)) a.1)), some (.dat (eI a.2.1)), some (.dat (eI a.2.2))]) (fun s => .dat (eB s)) hA hm (fun hm => ?_) (fun j1 v H hA hm => ?_)
  ·
    refine x_orV ?_
    refine x_op ?_
    refine x_op ?_
    refine x_op ?_
    refine (ev_var rfl) _ _ _ _ _ hA fun v H hA => ?_
    refine (ev_var rfl) _ _ _ _ _ hA fun v H hA => ?_
    refine f_o2m (o2_idxT (xs := a.1) (e := (eP2 (eT eS) eS))) hA hm fun t2 v H hA hm => ?_
    refine ev_int _ _ _ _ _ hA fun v H hA => ?_
    refine (o2_ixK (p := eS t2.2) rfl) _ _ _ _ _ _ _ hA fun v H hA => ?_
    refine x_op ?_
    refine x_op ?_
    refine (ev_var rfl) _ _ _ _ _ hA fun v H hA => ?_
    refine (ev_var rfl) _ _ _ _ _ hA fun v H hA => ?_
    refine f_o2m (o2_idxT (xs := a.1) (e := (eP2 (eT eS) eS))) hA hm fun t3 v H hA hm => ?_
    refine ev_int _ _ _ _ _ hA fun v H hA => ?_
    refine (o2_ixK (p := (eT eS) t3.1) rfl) _ _ _ _ _ _ _ hA fun v H hA => ?_
    refine (o2_inS (xs := t3.1) .t) _ _ _ _ _ _ _ hA fun v H hA => ?_
    refine f_tst (P := fun c H1 => _) hA fun hA => ?_
    refine f_pick hm (fun hm => ?_) (fun hm => ?_)
    ·
      exact hm _ H (hA.scal fun _ => rfl)
    ·
      refine x_op ?_
      refine x_op ?_
      refine x_op ?_
      refine (ev_var rfl) _ _ _ _ _ hA fun v H hA => ?_
      refine (ev_var rfl) _ _ _ _ _ hA fun v H hA => ?_
      refine f_o2m (o2_idxT (xs := a.1) (e := (eP2 (eT eS) eS))) hA hm fun t4 v H hA hm => ?_
      refine ev_int _ _ _ _ _ hA fun v H hA => ?_
      refine (o2_ixK (p := eS t4.2) rfl) _ _ _ _ _ _ _ hA fun v H hA => ?_
      refine x_op ?_
      refine x_op ?_
      refine (ev_var rfl) _ _ _ _ _ hA fun v H hA => ?_
      refine (ev_var rfl) _ _ _ _ _ hA fun v H hA => ?_
      refine f_o2m (o2_idxT (xs := a.1) (e := (eP2 (eT eS) eS))) hA hm fun t5 v H hA hm => ?_
      refine ev_int _ _ _ _ _ hA fun v H hA => ?_
      refine (o2_ixK (p := (eT eS) t5.1) rfl) _ _ _ _ _ _ _ hA fun v H hA => ?_
      refine (o2_inS (xs := t5.1) .t) _ _ _ _ _ _ _ hA fun v H hA => ?_
      exact hm v H hA
  ·
    replace hA : At K g [some (.dat ((eT (eP2 (eT eS) eS)) a.1)), some (.dat (eI a.2.1)), some (.dat (eI a.2.2))] _ _ _ := hA
    exact hm v H _ (hA.weak1 (.d (.d (.d .nil))) fun j z => nomatch z)
theorem ok_law_order (T : Txt K mg Z) : FnOk P w K mg base (L2.CX P w) 2 Z.f_law_order Z.d_law_order ["numbers", "many"] (Spec K Z.ec 2 pre_law_order f_law_order post_law_order ret_law_order) := by
  refine fn_ok T.d_law_order.F sc_law_order rfl m_law_order fun cdv A outer s H E hr => ?_
  refine ⟨_, (pss_cons (ps_set (i := 2) sc_law_order.nd rfl (Or.inl rfl) (pe_listRg rfl (by rfl) T.z_list (prg_1 (by rfl) T.z_range (pv 1))))
  (pss_cons (ps_set (i := 3) sc_law_order.nd rfl (Or.inl rfl) (pe_lst pa_nil))
  (pss_cons (ps_for (passes_of rfl) rfl (pi_range1 (by rfl) T.z_range (pa_cons (pv 1) pa_nil)) (pg_name (i := 4) sc_law_order.nd rfl (Or.inl rfl)) (pss_cons (ps_expr (pe_bm PySem.F.plainAttrs_list PySem.F.slot_list_append PySem.F.type_list_append mt_append (pv 3) (pa_cons (pe_bm PySem.F.plainAttrs_list PySem.F.slot_list_pop PySem.F.type_list_pop mt_popAt (pv 2) (pa_cons (pe_callS (ok_law_draw (K := K) T) (hr.mono (by decide)) (by rfl) T.d_law_draw.g T.d_law_draw.F.kp T.d_law_draw.b (fun σ => passAt (takes_of rfl rfl rfl rfl) σ) (pa_cons (pv 0) (pa_cons (pe_callB (r := Gv.rLen K) c_len (by rfl) T.z_len (by decide +kernel) (pa_cons (pv 2) pa_nil)) pa_nil))) pa_nil)) pa_nil)))
  pss_nil))
  (pss_cons (ps_ret (pv 3))
  pss_nil)))), ?_⟩
  intro a as _
  change BJ K _ [some (.own (as[0]?) (.lst (List.map eI a.1))), some (.dat (eI a.2)), none, none, none] _ _ _ _ _
  refine fun g σ H D hA hm => x_asg ?_
  refine x_listR ?_
  refine (ev_var rfl) _ _ _ _ _ hA fun v H hA => ?_
  refine f_listR hA hm fun v H hA hm => ?_
  refine f_setlt (e := (rangeL 0 a.2)) (fun t => .own none (.lst (List.map eI t))) hA (fun t j z => nomatch z) rfl hm (fun left_2 => ?_)
  change BJ K _ [some (.own (as[0]?) (.lst (List.map eI a.1))), some (.dat (eI a.2)), some (.own none (.lst (List.map eI left_2))), none, none] _ _ _ _ _
  refine fun g σ H D hA hm => x_asg ?_
  refine (ev_lst [] ea_nil) _ _ _ _ _ hA fun v H hA => ?_
  refine f_setlt (e := []) (fun t => .own none (.lst (List.map eI t))) hA (fun t j z => nomatch z) rfl hm (fun order_3 => ?_)
  change BJ K _ [some (.own (as[0]?) (.lst (List.map eI a.1))), some (.dat (eI a.2)), some (.own none (.lst (List.map eI left_2))), some (.own none (.lst (List.map eI order_3))), none] _ _ _ _ _
  refine fun g σ H D hA hm => ?_
  refine x_forR1 ?_
  refine (ev_var rfl) _ _ _ _ _ hA fun v H hA => ?_
  refine f_rng1 (b := a.2) hA hm fun hm => f_for (e := eI) (fun (s5 : ((List Int) × (List Int) × (List Int))) => [some (.own (as[0]?) (.lst (List.map eI s5.1))), none, some (.own none (.lst (List.map eI s5.2.1))), some (.own none (.lst (List.map eI s5.2.2))), none]) (s0 := (a.1, left_2, order_3)) (.s (.d (.s (.s (.d .nil))))) hm (hb_of (e := eI) (js := [4]) (ps := fun b6 => [eI b6]) (fun b => tj_name) (hjl (n := 5) (fun s => rfl) (by decide)) (fun s5 b6 => ?_)) (fun s5 => ?_)
  ·
    change BJ K _ [some (.own (as[0]?) (.lst (List.map eI s5.1))), none, some (.own none (.lst (List.map eI s5.2.1))), some (.own none (.lst (List.map eI s5.2.2))), some (.dat (eI b6))] _ _ _ _ _
    refine fun g σ H D hA hm => x_drop ?_
    refine x_app rfl hA fun x H hA => ?_
    refine x_bm1 ?_
    refine (ev_own rfl) _ _ _ _ _ hA fun v H hA => ?_
    refine ⟨hA.tyL (.als rfl), ?_⟩
    refine x_call2 ?_
    refine (ev_own rfl) _ _ _ _ _ hA fun v H hA => ?_
    refine (ev_cb1 (ev_own rfl) (o1_lenT s5.2.1 eI (.l (.als rfl)))) _ _ _ _ _ hA fun v H hA => ?_
    refine f_call [.o 0 (as[0]?) (.lst (List.map eI s5.1)), .d (eI ((s5.2.1).length : Int))] (s5.1, ((s5.2.1).length : Int)) (fun r => [.lst (List.map eI r.2)]) hA rfl rfl ⟨rfl, True.intro⟩ (fun as h => match as, h with | [_], _ => rfl) (fun _ => rfl) (fun r as h => match as, h with | [_], _ => rfl) (fun r j z => nomatch z) .nil (hm.bindR.imp (fun r7 hm v H hA => ?_) fun _ q => q)
    replace hA : At K g [some (.own (as[0]?) (.lst (List.map eI r7.2))), none, some (.own none (.lst (List.map eI s5.2.1))), some (.own none (.lst (List.map eI s5.2.2))), some (.dat (eI b6))] _ _ _ := hA
    refine f_popAt (xs := s5.2.1) (e := eI) rfl hA hm fun t8 v H hA hm => ?_
    replace hA : At K g [some (.own (as[0]?) (.lst (List.map eI r7.2))), none, some (.own none (.lst (List.map eI t8.2))), some (.own none (.lst (List.map eI s5.2.2))), some (.dat (eI b6))] _ _ _ := hA
    refine f_appm (xs := s5.2.2) (e := eI) rfl hA hm fun ys9 H hA hm => ?_
    refine bj_go hA hm ?_
    change BJ K _ [some (.own (as[0]?) (.lst (List.map eI r7.2))), none, some (.own none (.lst (List.map eI t8.2))), some (.own none (.lst (List.map eI ys9))), some (.dat (eI b6))] _ _ _ _ _
    exact bj_nx (a := (r7.2, t8.2, ys9)) (.s (.d (.s (.s (.d .nil)))))
  ·
    change BJ K _ [some (.own (as[0]?) (.lst (List.map eI s5.1))), none, some (.own none (.lst (List.map eI s5.2.1))), some (.own none (.lst (List.map eI s5.2.2))), none] _ _ _ _ _
    refine bj_frz (i := 3) rfl ?_
    change BJ K _ [some (.own (as[0]?) (.lst (List.map eI s5.1))), none, some (.own none (.lst (List.map eI s5.2.1))), some (.dat ((eL eI) s5.2.2)), none] _ _ _ _ _
    refine fun g σ H D hA hm => x_ret ?_
    refine (ev_var rfl) _ _ _ _ _ hA fun v H hA => ?_
    exact hm v H _ (hA.weak1 (.s (.d .nil)) fun j z => nomatch z)
theorem ok_law_led (T : Txt K mg Z) : FnOk P w K mg base (L2.CX P w) 2 Z.f_law_led Z.d_law_led ["numbers", "frame", "order"] (Spec K Z.ec 3 pre_law_led f_law_led post_law_led ret_law_led) := by
  refine fn_ok T.d_law_led.F sc_law_led rfl m_law_led fun cdv A outer s H E hr => ?_
  refine ⟨_, (pss_cons (ps_set (i := 3) sc_law_led.nd rfl (Or.inl rfl) (pe_callTy (r := rList K) c_list (by rfl) T.z_list (by decide +kernel) (pa_cons (pv 2) pa_nil)))
  (pss_cons (ps_for (passes_of rfl) rfl (pi_range1 (by rfl) T.z_range (pa_cons pe_int pa_nil)) (pg_name (i := 4) sc_law_led.nd rfl (Or.inl rfl)) (pss_cons (ps_if (pt_cmpR op_gt (pe_callB (r := Gv.rLen K) c_len (by rfl) T.z_len (by decide +kernel) (pa_cons (pv 3) pa_nil)) pe_int (nomark _)) (pss_cons (ps_set (i := 5) sc_law_led.nd rfl (Or.inl rfl) (pe_callS (ok_law_draw (K := K) T) (hr.mono (by decide)) (by rfl) T.d_law_draw.g T.d_law_draw.F.kp T.d_law_draw.b (fun σ => passAt (takes_of rfl rfl rfl rfl) σ) (pa_cons (pv 0) (pa_cons (pe_op op_sub (pe_callB (r := Gv.rLen K) c_len (by rfl) T.z_len (by decide +kernel) (pa_cons (pv 3) pa_nil)) pe_int) pa_nil))))
  (pss_cons (ps_if (pt_not (pt_val (pe_callS (ok_law_touch (K := K) T) (hr.mono (by decide)) (by rfl) T.d_law_touch.g T.d_law_touch.F.kp T.d_law_touch.b (fun σ => passAt (takes_of rfl rfl rfl rfl) σ) (pa_cons (pv 1) (pa_cons (pe_ix (r := rIxL K) ix_list (pv 3) (pv 5) (fun _ _ => rfl)) (pa_cons (pe_ix (r := rIxL K) ix_list (pv 3) (pe_op op_add (pv 5) pe_int) (fun _ _ => rfl)) pa_nil)))))) (pss_cons (ps_asg (pe_tup (pa_cons (pe_ix (r := rIxL K) ix_list (pv 3) (pe_op op_add (pv 5) pe_int) (fun _ _ => rfl)) (pa_cons (pe_ix (r := rIxL K) ix_list (pv 3) (pv 5) (fun _ _ => rfl)) pa_nil))) (pg_tup rfl (pgs_cons (pg_sub (pv 3) (pv 5) set_list) (pgs_cons (pg_sub (pv 3) (pe_op op_add (pv 5) pe_int) set_list) pgs_nil))))
  pss_nil) pss_nil)
  pss_nil)) pss_nil)
  pss_nil))
  (pss_cons (ps_ret (pv 3))
  pss_nil))), ?_⟩
  intro a as _
  change BJ K _ [some (.own (as[0]?) (.lst (List.map eI a.1))), some (.dat ((eT (eP2 (eT eS) eS)) a.2.1)), some (.dat ((eL eI) a.2.2)), none, none, none] _ _ _ _ _
  refine fun g σ H D hA hm => x_asg ?_
  refine (ev_cb1 (ev_var rfl) (o1_list (.l .dat))) _ _ _ _ _ hA fun v H hA => ?_
  refine f_setgo hA (fun j z => nomatch z) rfl hm ?_
  change BJ K _ [some (.own (as[0]?) (.lst (List.map eI a.1))), some (.dat ((eT (eP2 (eT eS) eS)) a.2.1)), some (.dat ((eL eI) a.2.2)), some (.own none (.lst (List.map eI a.2.2))), none, none] _ _ _ _ _
  refine fun g σ H D hA hm => ?_
  refine x_forR1 ?_
  refine ev_int _ _ _ _ _ hA fun v H hA => ?_
  refine f_rng1 (b := (24 : Int)) hA hm fun hm => f_for (e := eI) (fun (s2 : ((List Int) × (List Int))) => [some (.own (as[0]?) (.lst (List.map eI s2.1))), some (.dat ((eT (eP2 (eT eS) eS)) a.2.1)), none, some (.own none (.lst (List.map eI s2.2))), none, none]) (s0 := (a.1, a.2.2)) (.s (.s (.d (.s (.d (.d .nil)))))) hm (hb_of (e := eI) (js := [4]) (ps := fun b3 => [eI b3]) (fun b => tj_name) (hjl (n := 6) (fun s => rfl) (by decide)) (fun s2 b3 => ?_)) (fun s2 => ?_)
  ·
    change BJ K _ [some (.own (as[0]?) (.lst (List.map eI s2.1))), some (.dat ((eT (eP2 (eT eS) eS)) a.2.1)), none, some (.own none (.lst (List.map eI s2.2))), some (.dat (eI b3)), none] _ _ _ _ _
    refine bj_ifL (evb_test (ev_op (ev_cb1 (ev_own rfl) (o1_lenT s2.2 eI (.l (.als rfl)))) ev_int o2_c0)) ?_ ?_
    ·
      refine bj_assoc ?_
      refine fun g σ H D hA hm => x_asg ?_
      refine x_call2 ?_
      refine (ev_own rfl) _ _ _ _ _ hA fun v H hA => ?_
      refine (ev_op (ev_cb1 (ev_own rfl) (o1_lenT s2.2 eI (.l (.als rfl)))) ev_int o2_i0) _ _ _ _ _ hA fun v H hA => ?_
      refine f_call [.o 0 (as[0]?) (.lst (List.map eI s2.1)), .d (eI (((s2.2).length : Int) - (1 : Int)))] (s2.1, (((s2.2).length : Int) - (1 : Int))) (fun r => [.lst (List.map eI r.2)]) hA rfl rfl ⟨rfl, True.intro⟩ (fun as h => match as, h with | [_], _ => rfl) (fun _ => rfl) (fun r as h => match as, h with | [_], _ => rfl) (fun r j z => nomatch z) .nil (hm.bindR.imp (fun r4 hm v H hA => ?_) fun _ q => q)
      replace hA : At K g [some (.own (as[0]?) (.lst (List.map eI r4.2))), some (.dat ((eT (eP2 (eT eS) eS)) a.2.1)), none, some (.own none (.lst (List.map eI s2.2))), some (.dat (eI b3)), none] _ _ _ := hA
      refine f_setgo hA (fun j z => nomatch z) rfl hm ?_
      change BJ K _ [some (.own (as[0]?) (.lst (List.map eI r4.2))), some (.dat ((eT (eP2 (eT eS) eS)) a.2.1)), none, some (.own none (.lst (List.map eI s2.2))), some (.dat (eI b3)), some (.dat (eI r4.1))] _ _ _ _ _
      refine bj_assoc ?_
      refine fun g σ H D hA hm => x_ifS ?_
      refine x_not ?_
      refine x_B ?_
      refine x_call3 ?_
      refine (ev_var rfl) _ _ _ _ _ hA fun v H hA => ?_
      refine x_op ?_
      refine (ev_own rfl) _ _ _ _ _ hA fun v H hA => ?_
      refine (ev_var rfl) _ _ _ _ _ hA fun v H hA => ?_
      refine f_o2m (o2_idxL (xs := s2.2) (e := eI) (.als rfl)) hA hm fun t5 v H hA hm => ?_
      refine x_op ?_
      refine (ev_own rfl) _ _ _ _ _ hA fun v H hA => ?_
      refine (ev_op (ev_var rfl) ev_int o2_i0) _ _ _ _ _ hA fun v H hA => ?_
      refine f_o2m (o2_idxL (xs := s2.2) (e := eI) (.als rfl)) hA hm fun t6 v H hA hm => ?_
      refine f_call [.d ((eT (eP2 (eT eS) eS)) a.2.1), .d (eI t5), .d (eI t6)] (a.2.1, t5, t6) (fun r => []) hA rfl rfl True.intro (fun as h => match as, h with | [], _ => rfl) (fun _ => rfl) (fun r as h => match as, h with | [], _ => rfl) (fun r j z => nomatch z) .nil (hm.bindR.imp (fun r7 hm v H hA => ?_) fun _ q => q)
      refine f_tst (P := fun c H1 => _) hA fun hA => ?_
      refine f_ifS hm (fun hm => ?_) (fun hm => ?_)
      ·
        refine bj_go hA hm ?_
        change BJ K _ [some (.own (as[0]?) (.lst (List.map eI r4.2))), some (.dat ((eT (eP2 (eT eS) eS)) a.2.1)), none, some (.own none (.lst (List.map eI s2.2))), some (.dat (eI b3)), some (.dat (eI r4.1))] _ _ _ _ _
        refine bj_assoc ?_
        refine fun g σ H D hA hm => x_asg ?_
        refine x_tup ?_
        refine x_cons ?_
        refine x_op ?_
        refine (ev_own rfl) _ _ _ _ _ hA fun v H hA => ?_
        refine (ev_op (ev_var rfl) ev_int o2_i0) _ _ _ _ _ hA fun v H hA => ?_
        refine f_o2m (o2_idxL (xs := s2.2) (e := eI) (.als rfl)) hA hm fun t8 v H hA hm => ?_
        refine x_cons ?_
        refine x_op ?_
        refine (ev_own rfl) _ _ _ _ _ hA fun v H hA => ?_
        refine (ev_var rfl) _ _ _ _ _ hA fun v H hA => ?_
        refine f_o2m (o2_idxL (xs := s2.2) (e := eI) (.als rfl)) hA hm fun t9 v H hA hm => ?_
        refine x_nil ?_
        refine f_tup (vs := [_, _]) [eI t8, eI t9] hA rfl (Nat.le_of_ble_eq_true rfl) fun v H hA => ?_
        refine f_gtup2 (e1 := eI) (e2 := eI) (p := (t8, t9)) hA fun x y hA => ?_
        refine x_gsub ?_
        refine (ev_own rfl) _ _ _ _ _ hA fun v H hA => ?_
        refine (ev_var rfl) _ _ _ _ _ hA fun v H hA => ?_
        refine f_setm (xs := s2.2) (e := eI) rfl hA hm fun ys10 H hA hm => ?_
        replace hA : At K g [some (.own (as[0]?) (.lst (List.map eI r4.2))), some (.dat ((eT (eP2 (eT eS) eS)) a.2.1)), none, some (.own none (.lst (List.map eI ys10))), some (.dat (eI b3)), some (.dat (eI r4.1))] _ _ _ := hA
        refine x_g2 ?_
        refine x_gsub ?_
        refine (ev_own rfl) _ _ _ _ _ hA fun v H hA => ?_
        refine (ev_op (ev_var rfl) ev_int o2_i0) _ _ _ _ _ hA fun v H hA => ?_
        refine f_setm (xs := ys10) (e := eI) rfl hA hm fun ys11 H hA hm => ?_
        replace hA : At K g [some (.own (as[0]?) (.lst (List.map eI r4.2))), some (.dat ((eT (eP2 (eT eS) eS)) a.2.1)), none, some (.own none (.lst (List.map eI ys11))), some (.dat (eI b3)), some (.dat (eI r4.1))] _ _ _ := hA
        refine x_gnil ?_
        refine bj_go hA hm ?_
        change BJ K _ [some (.own (as[0]?) (.lst (List.map eI r4.2))), some (.dat ((eT (eP2 (eT eS) eS)) a.2.1)), none, some (.own none (.lst (List.map eI ys11))), some (.dat (eI b3)), some (.dat (eI r4.1))] _ _ _ _ _
        refine bj_pass ?_
        refine bj_pass ?_
        exact bj_nx (a := (r4.2, ys11)) (.s (.s (.d (.s (.d (.d .nil))))))
      ·
        refine bj_go hA hm ?_
        change BJ K _ [some (.own (as[0]?) (.lst (List.map eI r4.2))), some (.dat ((eT (eP2 (eT eS) eS)) a.2.1)), none, some (.own none (.lst (List.map eI s2.2))), some (.dat (eI b3)), some (.dat (eI r4.1))] _ _ _ _ _
        refine bj_pass ?_
        refine bj_pass ?_
        exact bj_nx (a := (r4.2, s2.2)) (.s (.s (.d (.s (.d (.d .nil))))))
    ·
      refine bj_pass ?_
      exact bj_nx (a := (s2.1, s2.2)) (.s (.s (.d (.s (.d (.d .nil))))))
  ·
    change BJ K _ [some (.own (as[0]?) (.lst (List.map eI s2.1))), some (.dat ((eT (eP2 (eT eS) eS)) a.2.1)), none, some (.own none (.lst (List.map eI s2.2))), none, none] _ _ _ _ _
    refine bj_frz (i := 3) rfl ?_
    change BJ K _ [some (.own (as[0]?) (.lst (List.map eI s2.1))), some (.dat ((eT (eP2 (eT eS) eS)) a.2.1)), none, some (.dat ((eL eI) s2.2)), none, none] _ _ _ _ _
    refine fun g σ H D hA hm => x_ret ?_
    refine (ev_var rfl) _ _ _ _ _ hA fun v H hA => ?_
    exact hm v H _ (hA.weak1 (.s (.d (.d .nil))) fun j z => nomatch z)
theorem ok_law_unlike (T : Txt K mg Z) : FnOk P w K mg base (L2.CX P w) 1 Z.f_law_unlike Z.d_law_unlike ["order", "other"] (Spec K Z.ec 2 pre_law_unlike f_law_unlike post_law_unlike ret_law_unlike) := by
  refine fn_ok T.d_law_unlike.F sc_law_unlike rfl m_law_unlike fun cdv A outer s H E hr => ?_
  refine ⟨_, (pss_cons (ps_set (i := 2) sc_law_unlike.nd rfl (Or.inl rfl) (pe_lst pa_nil))
  (pss_cons (ps_for (passes_of rfl) rfl (pi_range1 (by rfl) T.z_range (pa_cons (pe_callB (r := Gv.rLen K) c_len (by rfl) T.z_len (by decide +kernel) (pa_cons (pv 0) pa_nil)) pa_nil)) (pg_name (i := 3) sc_law_unlike.nd rfl (Or.inl rfl)) (pss_cons (ps_for (passes_of rfl) rfl (pi_range2 (by rfl) T.z_range (pa_cons (pe_op op_add (pv 3) pe_int) (pa_cons (pe_callB (r := Gv.rLen K) c_len (by rfl) T.z_len (by decide +kernel) (pa_cons (pv 0) pa_nil)) pa_nil))) (pg_name (i := 4) sc_law_unlike.nd rfl (Or.inl rfl)) (pss_cons (ps_if (pt_cmpR op_ne (pe_cmpR op_lt (pe_bm (r := rIndex K) PySem.F.plainAttrs_list PySem.F.slot_list_index PySem.F.type_list_index mt_index (pv 0) (pa_cons (pv 3) pa_nil)) (pe_bm (r := rIndex K) PySem.F.plainAttrs_list PySem.F.slot_list_index PySem.F.type_list_index mt_index (pv 0) (pa_cons (pv 4) pa_nil)) (nomark _)) (pe_cmpR op_lt (pe_bm (r := rIndex K) PySem.F.plainAttrs_list PySem.F.slot_list_index PySem.F.type_list_index mt_index (pv 1) (pa_cons (pv 3) pa_nil)) (pe_bm (r := rIndex K) PySem.F.plainAttrs_list PySem.F.slot_list_index PySem.F.type_list_index mt_index (pv 1) (pa_cons (pv 4) pa_nil)) (nomark _)) (nomark _)) (pss_cons (ps_expr (pe_bm PySem.F.plainAttrs_list PySem.F.slot_list_append PySem.F.type_list_append mt_append (pv 2) (pa_cons (pe_tup (pa_cons (pv 3) (pa_cons (pv 4) pa_nil))) pa_nil)))
  pss_nil) pss_nil)
  pss_nil))
  pss_nil))
  (pss_cons (ps_ret (pv 2))
  pss_nil))), ?_⟩
  intro a as _
  change BJ K _ [some (.dat ((eL eI) a.1)), some (.dat ((eL eI) a.2)), none, none, none] _ _ _ _ _
  refine fun g σ H D hA hm => x_asg ?_
  refine (ev_lst [] ea_nil) _ _ _ _ _ hA fun v H hA => ?_
  refine f_setlt (e := []) (fun t => .own none (.lst (List.map (eP2 eI eI) t))) hA (fun t j z => nomatch z) rfl hm (fun pairs_1 => ?_)
  change BJ K _ [some (.dat ((eL eI) a.1)), some (.dat ((eL eI) a.2)), some (.own none (.lst (List.map (eP2 eI eI) pairs_1))), none, none] _ _ _ _ _
  refine fun g σ H D hA hm => ?_
  refine x_forR1 ?_
  refine (ev_cb1 (ev_var rfl) (o1_lenT a.1 eI (.l .dat))) _ _ _ _ _ hA fun v H hA => ?_
  refine f_rng1 (b := ((a.1).length : Int)) hA hm fun hm => f_for (e := eI) (fun (s3 : (List (Int × Int))) => [some (.dat ((eL eI) a.1)), some (.dat ((eL eI) a.2)), some (.own none (.lst (List.map (eP2 eI eI) s3))), none, none]) (s0 := pairs_1) (.s (.s (.s (.d (.d .nil))))) hm (hb_of (e := eI) (js := [3]) (ps := fun b4 => [eI b4]) (fun b => tj_name) (hjl (n := 5) (fun s => rfl) (by decide)) (fun s3 b4 => ?_)) (fun s3 => ?_)
  ·
    change BJ K _ [some (.dat ((eL eI) a.1)), some (.dat ((eL eI) a.2)), some (.own none (.lst (List.map (eP2 eI eI) s3))), some (.dat (eI b4)), none] _ _ _ _ _
    refine fun g σ H D hA hm => ?_
    refine x_forR2 ?_
    refine (ev_op (ev_var rfl) ev_int o2_i0) _ _ _ _ _ hA fun v H hA => ?_
    refine (ev_cb1 (ev_var rfl) (o1_lenT a.1 eI (.l .dat))) _ _ _ _ _ hA fun v H hA => ?_
    refine f_rng2 (a := (b4 + (1 : Int))) (b := ((a.1).length : Int)) hA hm fun hm => f_for (e := eI) (fun (s6 : (List (Int × Int))) => [some (.dat ((eL eI) a.1)), some (.dat ((eL eI) a.2)), some (.own none (.lst (List.map (eP2 eI eI) s6))), some (.dat (eI b4)), none]) (s0 := s3) (.s (.s (.s (.s (.d .nil))))) hm (hb_of (e := eI) (js := [4]) (ps := fun b7 => [eI b7]) (fun b => tj_name) (hjl (n := 5) (fun s => rfl) (by decide)) (fun s6 b7 => ?_)) (fun s6 => ?_)
    ·
      change BJ K _ [some (.dat ((eL eI) a.1)), some (.dat ((eL eI) a.2)), some (.own none (.lst (List.map (eP2 eI eI) s6))), some (.dat (eI b4)), some (.dat (eI b7))] _ _ _ _ _
      refine fun g σ H D hA hm => x_ifS ?_
      refine x_test ?_
      refine x_op ?_
      refine x_op ?_
      refine x_bm1 ?_
      refine (ev_var rfl) _ _ _ _ _ hA fun v H hA => ?_
      refine ⟨hA.tyL (ps := List.map eI a.1) .dat, ?_⟩
      refine (ev_var rfl) _ _ _ _ _ hA fun v H hA => ?_
      refine f_index (xs := a.1) .dat hA hm fun t8 v H hA hm => ?_
      refine x_bm1 ?_
      refine (ev_var rfl) _ _ _ _ _ hA fun v H hA => ?_
      refine ⟨hA.tyL (ps := List.map eI a.1) .dat, ?_⟩
      refine (ev_var rfl) _ _ _ _ _ hA fun v H hA => ?_
      refine f_index (xs := a.1) .dat hA hm fun t9 v H hA hm => ?_
      refine o2_c0 _ _ _ _ _ _ _ hA fun v H hA => ?_
      refine x_op ?_
      refine x_bm1 ?_
      refine (ev_var rfl) _ _ _ _ _ hA fun v H hA => ?_
      refine ⟨hA.tyL (ps := List.map eI a.2) .dat, ?_⟩
      refine (ev_var rfl) _ _ _ _ _ hA fun v H hA => ?_
      refine f_index (xs := a.2) .dat hA hm fun t10 v H hA hm => ?_
      refine x_bm1 ?_
      refine (ev_var rfl) _ _ _ _ _ hA fun v H hA => ?_
      refine ⟨hA.tyL (ps := List.map eI a.2) .dat, ?_⟩
      refine (ev_var rfl) _ _ _ _ _ hA fun v H hA => ?_
      refine f_index (xs := a.2) .dat hA hm fun t11 v H hA hm => ?_
      refine o2_c0 _ _ _ _ _ _ _ hA fun v H hA => ?_
      refine o2_neB _ _ _ _ _ _ _ hA fun v H hA => ?_
      refine f_tst (P := fun c H1 => _) hA fun hA => ?_
      refine f_ifS hm (fun hm => ?_) (fun hm => ?_)
      ·
        refine bj_go hA hm ?_
        change BJ K _ [some (.dat ((eL eI) a.1)), some (.dat ((eL eI) a.2)), some (.own none (.lst (List.map (eP2 eI eI) s6))), some (.dat (eI b4)), some (.dat (eI b7))] _ _ _ _ _
        refine bj_assoc ?_
        refine fun g σ H D hA hm => x_drop ?_
        refine x_app rfl hA fun x H hA => ?_
        refine (ev_tup [eI b4, eI b7] (ea_cons (ev_var rfl) (ea_cons (ev_var rfl) ea_nil))) _ _ _ _ _ hA fun v H hA => ?_
        refine f_appm (xs := s6) (e := (eP2 eI eI)) rfl hA hm fun ys12 H hA hm => ?_
        refine bj_go hA hm ?_
        change BJ K _ [some (.dat ((eL eI) a.1)), some (.dat ((eL eI) a.2)), some (.own none (.lst (List.map (eP2 eI eI) ys12))), some (.dat (eI b4)), some (.dat (eI b7))] _ _ _ _ _
        refine bj_pass ?_
        exact bj_nx (a := ys12) (.s (.s (.s (.s (.d .nil)))))
      ·
        refine bj_go hA hm ?_
        change BJ K _ [some (.dat ((eL eI) a.1)), some (.dat ((eL eI) a.2)), some (.own none (.lst (List.map (eP2 eI eI) s6))), some (.dat (eI b4)), some (.dat (eI b7))] _ _ _ _ _
        refine bj_pass ?_
        exact bj_nx (a := s6) (.s (.s (.s (.s (.d .nil)))))
    ·
      change BJ K _ [some (.dat ((eL eI) a.1)), some (.dat ((eL eI) a.2)), some (.own none (.lst (List.map (eP2 eI eI) s6))), some (.dat (eI b4)), none] _ _ _ _ _
      exact bj_nx (a := s6) (.s (.s (.s (.d (.d .nil)))))
  ·
    change BJ K _ [some (.dat ((eL eI) a.1)), some (.dat ((eL eI) a.2)), some (.own none (.lst (List.map (eP2 eI eI) s3))), none, none] _ _ _ _ _
    refine bj_frz (i := 2) rfl ?_
    change BJ K _ [some (.dat ((eL eI) a.1)), some (.dat ((eL eI) a.2)), some (.dat ((eL (eP2 eI eI)) s3)), none, none] _ _ _ _ _
    refine fun g σ H D hA hm => x_ret ?_
    refine (ev_var rfl) _ _ _ _ _ hA fun v H hA => ?_
    exact hm v H _ (hA.weak1 (.d (.d .nil)) fun j z => nomatch z)
theorem ok_law_directions (T : Txt K mg Z) : FnOk P w K mg base (L2.CX P w) 2 Z.f_law_directions Z.d_law_directions ["frame", "order"] (Spec K Z.ec 2 pre_law_directions f_law_directions post_law_directions ret_law_directions) := by
  refine fn_ok T.d_law_directions.F sc_law_directions rfl m_law_directions fun cdv A outer s H E hr => ?_
  refine ⟨_, (pss_cons (ps_set (i := 2) sc_law_directions.nd rfl (Or.inl rfl) (pe_lst pa_nil))
  (pss_cons (ps_for (passes_of rfl) rfl (pi_range1 (by rfl) T.z_range (pa_cons (pe_callB (r := Gv.rLen K) c_len (by rfl) T.z_len (by decide +kernel) (pa_cons (pv 0) pa_nil)) pa_nil)) (pg_name (i := 3) sc_law_directions.nd rfl (Or.inl rfl)) (pss_cons (ps_for (passes_of rfl) rfl (pi_range2 (by rfl) T.z_range (pa_cons (pe_op op_add (pv 3) pe_int) (pa_cons (pe_callB (r := Gv.rLen K) c_len (by rfl) T.z_len (by decide +kernel) (pa_cons (pv 0) pa_nil)) pa_nil))) (pg_name (i := 4) sc_law_directions.nd rfl (Or.inl rfl)) (pss_cons (ps_if (pt_val (pe_callS (ok_law_touch (K := K) T) (hr.mono (by decide)) (by rfl) T.d_law_touch.g T.d_law_touch.F.kp T.d_law_touch.b (fun σ => passAt (takes_of rfl rfl rfl rfl) σ) (pa_cons (pv 0) (pa_cons (pv 3) (pa_cons (pv 4) pa_nil))))) (pss_cons (ps_if (pt_cmpR op_lt (pe_bm (r := rIndex K) PySem.F.plainAttrs_list PySem.F.slot_list_index PySem.F.type_list_index mt_index (pv 1) (pa_cons (pv 3) pa_nil)) (pe_bm (r := rIndex K) PySem.F.plainAttrs_list PySem.F.slot_list_index PySem.F.type_list_index mt_index (pv 1) (pa_cons (pv 4) pa_nil)) (nomark _)) (pss_cons (ps_expr (pe_bm PySem.F.plainAttrs_list PySem.F.slot_list_append PySem.F.type_list_append mt_append (pv 2) (pa_cons (pe_tup (pa_cons (pv 3) (pa_cons (pv 4) pa_nil))) pa_nil)))
  pss_nil) (pss_cons (ps_expr (pe_bm PySem.F.plainAttrs_list PySem.F.slot_list_append PySem.F.type_list_append mt_append (pv 2) (pa_cons (pe_tup (pa_cons (pv 4) (pa_cons (pv 3) pa_nil))) pa_nil)))
  pss_nil))
  pss_nil) pss_nil)
  pss_nil))
  pss_nil))
  (pss_cons (ps_ret (pe_callTy (r := rTuple K) c_tuple (by rfl) T.z_tuple (by decide +kernel) (pa_cons (pe_callB (r := rSortedPO K) cr_sortedPO (by rfl) T.z_sorted (by decide +kernel) (pa_cons (pv 2) pa_nil)) pa_nil)))
  pss_nil))), ?_⟩
  intro a as _
  change BJ K _ [some (.dat ((eT (eP2 (eT eS) eS)) a.1)), some (.dat ((eL eI) a.2)), none, none, none] _ _ _ _ _
  refine fun g σ H D hA hm => x_asg ?_
  refine (ev_lst [] ea_nil) _ _ _ _ _ hA fun v H hA => ?_
  refine f_setlt (e := []) (fun t => .own none (.lst (List.map eQ t))) hA (fun t j z => nomatch z) rfl hm (fun told_1 => ?_)
  change BJ K _ [some (.dat ((eT (eP2 (eT eS) eS)) a.1)), some (.dat ((eL eI) a.2)), some (.own none (.lst (List.map eQ told_1))), none, none] _ _ _ _ _
  refine fun g σ H D hA hm => ?_
  refine x_forR1 ?_
  refine (ev_cb1 (ev_var rfl) (o1_lenT a.1 (eP2 (eT eS) eS) .t)) _ _ _ _ _ hA fun v H hA => ?_
  refine f_rng1 (b := ((a.1).length : Int)) hA hm fun hm => f_for (e := eI) (fun (s3 : (List (Int × Int))) => [some (.dat ((eT (eP2 (eT eS) eS)) a.1)), some (.dat ((eL eI) a.2)), some (.own none (.lst (List.map eQ s3))), none, none]) (s0 := told_1) (.s (.s (.s (.d (.d .nil))))) hm (hb_of (e := eI) (js := [3]) (ps := fun b4 => [eI b4]) (fun b => tj_name) (hjl (n := 5) (fun s => rfl) (by decide)) (fun s3 b4 => ?_)) (fun s3 => ?_)
  ·
    change BJ K _ [some (.dat ((eT (eP2 (eT eS) eS)) a.1)), some (.dat ((eL eI) a.2)), some (.own none (.lst (List.map eQ s3))), some (.dat (eI b4)), none] _ _ _ _ _
    refine fun g σ H D hA hm => ?_
    refine x_forR2 ?_
    refine (ev_op (ev_var rfl) ev_int o2_i0) _ _ _ _ _ hA fun v H hA => ?_
    refine (ev_cb1 (ev_var rfl) (o1_lenT a.1 (eP2 (eT eS) eS) .t)) _ _ _ _ _ hA fun v H hA => ?_
    refine f_rng2 (a := (b4 + (1 : Int))) (b := ((a.1).length : Int)) hA hm fun hm => f_for (e := eI) (fun (s6 : (List (Int × Int))) => [some (.dat ((eT (eP2 (eT eS) eS)) a.1)), some (.dat ((eL eI) a.2)), some (.own none (.lst (List.map eQ s6))), some (.dat (eI b4)), none]) (s0 := s3) (.s (.s (.s (.s (.d .nil))))) hm (hb_of (e := eI) (js := [4]) (ps := fun b7 => [eI b7]) (fun b => tj_name) (hjl (n := 5) (fun s => rfl) (by decide)) (fun s6 b7 => ?_)) (fun s6 => ?_)
    ·
      change BJ K _ [some (.dat ((eT (eP2 (eT eS) eS)) a.1)), some (.dat ((eL eI) a.2)), some (.own none (.lst (List.map eQ s6))), some (.dat (eI b4)), some (.dat (eI b7))] _ _ _ _ _
      refine fun g σ H D hA hm => x_ifS ?_
      refine x_B ?_
      refine x_call3 ?_
      refine (ev_var rfl) _ _ _ _ _ hA fun v H hA => ?_
      refine (ev_var rfl) _ _ _ _ _ hA fun v H hA => ?_
      refine (ev_var rfl) _ _ _ _ _ hA fun v H hA => ?_
      refine f_call [.d ((eT (eP2 (eT eS) eS)) a.1), .d (eI b4), .d (eI b7)] (a.1, b4, b7) (fun r => []) hA rfl rfl True.intro (fun as h => match as, h with | [], _ => rfl) (fun _ => rfl) (fun r as h => match as, h with | [], _ => rfl) (fun r j z => nomatch z) .nil (hm.bindR.imp (fun r8 hm v H hA => ?_) fun _ q => q)
      refine f_tst (P := fun c H1 => _) hA fun hA => ?_
      refine f_ifS hm (fun hm => ?_) (fun hm => ?_)
      ·
        refine bj_go hA hm ?_
        change BJ K _ [some (.dat ((eT (eP2 (eT eS) eS)) a.1)), some (.dat ((eL eI) a.2)), some (.own none (.lst (List.map eQ s6))), some (.dat (eI b4)), some (.dat (eI b7))] _ _ _ _ _
        refine bj_assoc ?_
        refine fun g σ H D hA hm => x_ifS ?_
        refine x_test ?_
        refine x_op ?_
        refine x_bm1 ?_
        refine (ev_var rfl) _ _ _ _ _ hA fun v H hA => ?_
        refine ⟨hA.tyL (ps := List.map eI a.2) .dat, ?_⟩
        refine (ev_var rfl) _ _ _ _ _ hA fun v H hA => ?_
        refine f_index (xs := a.2) .dat hA hm fun t9 v H hA hm => ?_
        refine x_bm1 ?_
        refine (ev_var rfl) _ _ _ _ _ hA fun v H hA => ?_
        refine ⟨hA.tyL (ps := List.map eI a.2) .dat, ?_⟩
        refine (ev_var rfl) _ _ _ _ _ hA fun v H hA => ?_
        refine f_index (xs := a.2) .dat hA hm fun t10 v H hA hm => ?_
        refine o2_c0 _ _ _ _ _ _ _ hA fun v H hA => ?_
        refine f_tst (P := fun c H1 => _) hA fun hA => ?_
        refine f_ifS hm (fun hm => ?_) (fun hm => ?_)
        ·
          refine bj_go hA hm ?_
          change BJ K _ [some (.dat ((eT (eP2 (eT eS) eS)) a.1)), some (.dat ((eL eI) a.2)), some (.own none (.lst (List.map eQ s6))), some (.dat (eI b4)), some (.dat (eI b7))] _ _ _ _ _
          refine bj_assoc ?_
          refine fun g σ H D hA hm => x_drop ?_
          refine x_app rfl hA fun x H hA => ?_
          refine x_tup ?_
          refine x_cons ?_
          refine (ev_var rfl) _ _ _ _ _ hA fun v H hA => ?_
          refine x_cons ?_
          refine (ev_var rfl) _ _ _ _ _ hA fun v H hA => ?_
          refine x_nil ?_
          refine f_tupQ hA fun v H hA => ?_
          refine f_appm (xs := s6) (e := eQ) rfl hA hm fun ys11 H hA hm => ?_
          refine bj_go hA hm ?_
          change BJ K _ [some (.dat ((eT (eP2 (eT eS) eS)) a.1)), some (.dat ((eL eI) a.2)), some (.own none (.lst (List.map eQ ys11))), some (.dat (eI b4)), some (.dat (eI b7))] _ _ _ _ _
          refine bj_pass ?_
          refine bj_pass ?_
          exact bj_nx (a := ys11) (.s (.s (.s (.s (.d .nil)))))
        ·
          refine bj_go hA hm ?_
          change BJ K _ [some (.dat ((eT (eP2 (eT eS) eS)) a.1)), some (.dat ((eL eI) a.2)), some (.own none (.lst (List.map eQ s6))), some (.dat (eI b4)), some (.dat (eI b7))] _ _ _ _ _
          refine bj_assoc ?_
          refine fun g σ H D hA hm => x_drop ?_
          refine x_app rfl hA fun x H hA => ?_
          refine x_tup ?_
          refine x_cons ?_
          refine (ev_var rfl) _ _ _ _ _ hA fun v H hA => ?_
          refine x_cons ?_
          refine (ev_var rfl) _ _ _ _ _ hA fun v H hA => ?_
          refine x_nil ?_
          refine f_tupQ hA fun v H hA => ?_
          refine f_appm (xs := s6) (e := eQ) rfl hA hm fun ys12 H hA hm => ?_
          refine bj_go hA hm ?_
          change BJ K _ [some (.dat ((eT (eP2 (eT eS) eS)) a.1)), some (.dat ((eL eI) a.2)), some (.own none (.lst (List.map eQ ys12))), some (.dat (eI b4)), some (.dat (eI b7))] _ _ _ _ _
          refine bj_pass ?_
          refine bj_pass ?_
          exact bj_nx (a := ys12) (.s (.s (.s (.s (.d .nil)))))
      ·
        refine bj_go hA hm ?_
        change BJ K _ [some (.dat ((eT (eP2 (eT eS) eS)) a.1)), some (.dat ((eL eI) a.2)), some (.own none (.lst (List.map eQ s6))), some (.dat (eI b4)), some (.dat (eI b7))] _ _ _ _ _
        refine bj_pass ?_
        exact bj_nx (a := s6) (.s (.s (.s (.s (.d .nil)))))
    ·
      change BJ K _ [some (.dat ((eT (eP2 (eT eS) eS)) a.1)), some (.dat ((eL eI) a.2)), some (.own none (.lst (List.map eQ s6))), some (.dat (eI b4)), none] _ _ _ _ _
      exact bj_nx (a := s6) (.s (.s (.s (.d (.d .nil)))))
  ·
    change BJ K _ [some (.dat ((eT (eP2 (eT eS) eS)) a.1)), some (.dat ((eL eI) a.2)), some (.own none (.lst (List.map eQ s3))), none, none] _ _ _ _ _
    refine fun g σ H D hA hm => x_ret ?_
    refine x_cb1 ?_
    refine x_cb1 ?_
    refine (ev_own rfl) _ _ _ _ _ hA fun v H hA => ?_
    refine o1_sortedQ (xs := s3) (.als rfl) _ _ _ _ _ _ hA fun v H hA => ?_
    refine o1_tuple (.l .own) _ _ _ _ _ _ hA fun v H hA => ?_
    replace hA := hA.box tq_p
    exact hm v H _ (hA.weak1 (.d (.d .nil)) fun j z => nomatch z)
theorem ok_law_swaps_right (T : Txt K mg Z) : FnOk P w K mg base (L2.CX P w) 8 Z.f_law_swaps_right Z.d_law_swaps_right ["frame", "order", "other"] (Spec K Z.ec 3 pre_law_swaps_right f_law_swaps_right post_law_swaps_right ret_law_swaps_right) := by
  refine fn_ok T.d_law_swaps_right.F sc_law_swaps_right rfl m_law_swaps_right fun cdv A outer s H E hr => ?_
  refine ⟨_, (pss_cons (ps_set (i := 3) sc_law_swaps_right.nd rfl (Or.inl rfl) (pe_callS (ok_swaps (K := K) T) (hr.mono (by decide)) (by rfl) T.d_swaps.g T.d_swaps.F.kp T.d_swaps.b (fun σ => passAt (takes_of rfl rfl rfl rfl) σ) (pa_cons (pv 0) (pa_cons (pv 1) (pa_cons (pe_callTy (r := rTuple K) c_tuple (by rfl) T.z_tuple (by decide +kernel) (pa_cons (pv 2) pa_nil)) pa_nil)))))
  (pss_cons (ps_set (i := 4) sc_law_swaps_right.nd rfl (Or.inl rfl) (pe_callS (ok_law_unlike (K := K) T) (hr.mono (by decide)) (by rfl) T.d_law_unlike.g T.d_law_unlike.F.kp T.d_law_unlike.b (fun σ => passAt (takes_of rfl rfl rfl rfl) σ) (pa_cons (pv 1) (pa_cons (pv 2) pa_nil))))
  (pss_cons (ps_setLc (i := 5) (own := [("pair", 8)]) (g := gName 8) rfl sc_law_swaps_right.nd rfl rfl (sw_true rfl rfl rfl (by decide +kernel)) (pi_list (pv 4)) (blkOk_by (N := ["frame", "order", "other", "told", "unlike", "parted", "at", "k", "pair"]) (sc := defScope st_law_swaps_right) (by decide +kernel)) (fun _ _ _ _ _ => (pg_name (i := 8) sc_law_swaps_right.nd rfl (Or.inl rfl))) (fun _ _ _ _ _ => (pts_one (pt_val (pe_callS (ok_law_touch (K := K) T) (hr.mono (by decide)) (by rfl) T.d_law_touch.g T.d_law_touch.F.kp T.d_law_touch.b (fun σ => passAt takes0 σ) (pa_cons (pv 0) (pa_cons (pe_ix (r := rIxT K) ix_tup (pv 8) pe_int (fun _ _ => rfl)) (pa_cons (pe_ix (r := rIxT K) ix_tup (pv 8) pe_int (fun _ _ => rfl)) pa_nil))))))) (fun _ _ _ _ _ => (pv 8)))
  (pss_cons (ps_if (pt_cmpR op_gt (pe_callB (r := Gv.rLen K) c_len (by rfl) T.z_len (by decide +kernel) (pa_cons (pv 5) pa_nil)) pe_int (nomark _)) (pss_cons (ps_ret (pe_cmpR p_isN (pv 3) pe_non (nomark _)))
  pss_nil) pss_nil)
  (pss_cons (ps_if (pw_or (pt_not (pt_val (pe_callB (r := rIsi K) call_isi (by rfl) T.z_isinstance (by decide +kernel) (pa_cons (pv 3) (pa_cons (pe_bltn (v := .ty "tuple") (u := .type "tuple") (by rfl) T.z_tuple (by decide +kernel) rfl) pa_nil))))) (pw_or1 (pt_cmpR op_ne (pe_callB (r := Gv.rLen K) c_len (by rfl) T.z_len (by decide +kernel) (pa_cons (pv 3) pa_nil)) (pe_callB (r := Gv.rLen K) c_len (by rfl) T.z_len (by decide +kernel) (pa_cons (pv 4) pa_nil)) (nomark _)))).pt (pss_cons (ps_ret pe_bl)
  pss_nil) pss_nil)
  (pss_cons (ps_set (i := 6) sc_law_swaps_right.nd rfl (Or.inl rfl) (pe_callTy (r := rList K) c_list (by rfl) T.z_list (by decide +kernel) (pa_cons (pv 1) pa_nil)))
  (pss_cons (ps_for (passes_of rfl) rfl (pi_tup (pv 3)) (pg_name (i := 7) sc_law_swaps_right.nd rfl (Or.inl rfl)) (pss_cons (ps_if (pw_or (pt_not (pt_val (pe_callS (ok_law_int (K := K) T) (hr.mono (by decide)) (by rfl) T.d_law_int.g T.d_law_int.F.kp T.d_law_int.b (fun σ => passAt (takes_of rfl rfl rfl rfl) σ) (pa_cons (pv 7) pa_nil)))) (pw_or (pt_cmpR op_lt (pv 7) pe_int (nomark _)) (pw_or (pt_cmpR op_ge (pe_op op_add (pv 7) pe_int) (pe_callB (r := Gv.rLen K) c_len (by rfl) T.z_len (by decide +kernel) (pa_cons (pv 6) pa_nil)) (nomark _)) (pw_or1 (pt_val (pe_callS (ok_law_touch (K := K) T) (hr.mono (by decide)) (by rfl) T.d_law_touch.g T.d_law_touch.F.kp T.d_law_touch.b (fun σ => passAt (takes_of rfl rfl rfl rfl) σ) (pa_cons (pv 0) (pa_cons (pe_ix (r := rIxL K) ix_list (pv 6) (pv 7) (fun _ _ => rfl)) (pa_cons (pe_ix (r := rIxL K) ix_list (pv 6) (pe_op op_add (pv 7) pe_int) (fun _ _ => rfl)) pa_nil))))))))).pt (pss_cons (ps_ret pe_bl)
  pss_nil) pss_nil)
  (pss_cons (ps_asg (pe_tup (pa_cons (pe_ix (r := rIxL K) ix_list (pv 6) (pe_op op_add (pv 7) pe_int) (fun _ _ => rfl)) (pa_cons (pe_ix (r := rIxL K) ix_list (pv 6) (pv 7) (fun _ _ => rfl)) pa_nil))) (pg_tup rfl (pgs_cons (pg_sub (pv 6) (pv 7) set_list) (pgs_cons (pg_sub (pv 6) (pe_op op_add (pv 7) pe_int) set_list) pgs_nil))))
  pss_nil)))
  (pss_cons (ps_ret (pe_cmpR (r := rEqD K) (op_eqD hr.units) (pv 6) (pe_callTy (r := rList K) c_list (by rfl) T.z_list (by decide +kernel) (pa_cons (pv 2) pa_nil)) (nomark _)))
  pss_nil)))))))), ?_⟩
  intro a as _
  change BJ K _ [some (.dat ((eT (eP2 (eT eS) eS)) a.1)), some (.dat ((eL eI) a.2.1)), some (.dat ((eL eI) a.2.2)), none, none, none, none, none, none] _ _ _ _ _
  refine fun g σ H D hA hm => x_asg ?_
  refine x_call3 ?_
  refine (ev_var rfl) _ _ _ _ _ hA fun v H hA => ?_
  replace hA := hA.box (Bx.hd (x := a.1) (bx_t (bx_p2 (bx_t bx_s) bx_s)))
  refine (ev_var rfl) _ _ _ _ _ hA fun v H hA => ?_
  replace hA := hA.box (Bx.hd (x := a.2.1) (bx_l bx_i))
  refine (ev_cb1 (ev_var rfl) (o1_tuple (.l .dat))) _ _ _ _ _ hA fun v H hA => ?_
  replace hA := hA.box (Bx.hd (x := a.2.2) (bx_t bx_i))
  refine f_call [.d (eD ((dT (dP2 (dT PyData.str) PyData.str)) a.1)), .d (eD ((dL PyData.int) a.2.1)), .d (eD ((dT PyData.int) a.2.2))] (((dT (dP2 (dT PyData.str) PyData.str)) a.1), ((dL PyData.int) a.2.1), ((dT PyData.int) a.2.2)) (fun r => []) hA rfl rfl True.intro (fun as h => match as, h with | [], _ => rfl) (fun _ => rfl) (fun r as h => match as, h with | [], _ => rfl) (fun r j z => nomatch z) .nil (hm.bindR.imp (fun r1 hm v H hA => ?_) fun _ q => q)
  refine f_setgo hA (fun j z => nomatch z) rfl hm ?_
  change BJ K _ [some (.dat ((eT (eP2 (eT eS) eS)) a.1)), some (.dat ((eL eI) a.2.1)), some (.dat ((eL eI) a.2.2)), some (.dat ((eO (eT eI)) r1)), none, none, none, none, none] _ _ _ _ _
  refine fun g σ H D hA hm => x_asg ?_
  refine x_call2 ?_
  refine (ev_var rfl) _ _ _ _ _ hA fun v H hA => ?_
  refine (ev_var rfl) _ _ _ _ _ hA fun v H hA => ?_
  refine f_call [.d ((eL eI) a.2.1), .d ((eL eI) a.2.2)] (a.2.1, a.2.2) (fun r => []) hA rfl rfl True.intro (fun as h => match as, h with | [], _ => rfl) (fun _ => rfl) (fun r as h => match as, h with | [], _ => rfl) (fun r j z => nomatch z) .nil (hm.bindR.imp (fun r2 hm v H hA => ?_) fun _ q => q)
  refine f_setgo hA (fun j z => nomatch z) rfl hm ?_
  change BJ K _ [some (.dat ((eT (eP2 (eT eS) eS)) a.1)), some (.dat ((eL eI) a.2.1)), some (.dat ((eL eI) a.2.2)), some (.dat ((eO (eT eI)) r1)), some (.dat ((eL (eP2 eI eI)) r2)), none, none, none, none] _ _ _ _ _
  refine fun g σ H D hA hm => x_asg ?_
  refine x_lcL ?_
  refine (ev_var rfl) _ _ _ _ _ hA fun v H hA => ?_
  refine wk_list (xs := r2) (e := (eP2 eI eI)) hA (f_lcW (e := (eP2 eI eI)) (enc := (eP2 eI eI)) (js := [8]) (ps := fun b3 => [(eP2 eI eI) b3]) (fun (s4 : Unit) => [some (.dat ((eT (eP2 (eT eS) eS)) a.1)), some (.dat ((eL eI) a.2.1)), some (.dat ((eL eI) a.2.2)), some (.dat ((eO (eT eI)) r1)), some (.dat ((eL (eP2 eI eI)) r2)), none, none, none, none]) (()) (fun b => tj_name) (by decide) (hnl fun s => rfl) (hnl fun s => rfl) (by decide) (lj_fwd fun s4 b3 g σ τ H Q Qn hA hm => ?_) hm (fun r5 v H hA hm => ?_))
  ·
    replace hA : At K g [some (.dat ((eT (eP2 (eT eS) eS)) a.1)), some (.dat ((eL eI) a.2.1)), some (.dat ((eL eI) a.2.2)), some (.dat ((eO (eT eI)) r1)), some (.dat ((eL (eP2 eI eI)) r2)), none, none, none, some (.dat ((eP2 eI eI) b3))] _ _ _ := hA
    refine x_B ?_
    refine x_call3 ?_
    refine (ev_var rfl) _ _ _ _ _ hA fun v H hA => ?_
    refine (ev_op (ev_var rfl) ev_int (o2_ixK (p := eI b3.1))) _ _ _ _ _ hA fun v H hA => ?_
    refine (ev_op (ev_var rfl) ev_int (o2_ixK (p := eI b3.2))) _ _ _ _ _ hA fun v H hA => ?_
    refine f_call [.d ((eT (eP2 (eT eS) eS)) a.1), .d (eI b3.1), .d (eI b3.2)] (a.1, b3.1, b3.2) (fun r => []) hA rfl rfl True.intro (fun as h => match as, h with | [], _ => rfl) (fun _ => rfl) (fun r as h => match as, h with | [], _ => rfl) (fun r j z => nomatch z) .nil (hm.bindR.imp (fun r6 hm v H hA => ?_) fun _ q => q.elim)
    refine f_tst (P := fun c H1 => _) hA fun hA => ?_
    refine f_pick hm (fun hm => ?_) (fun hm => ?_)
    ·
      refine (ev_var rfl) _ _ _ _ _ hA fun v H hA => ?_
      exact hm v H hA
    ·
      exact hm H hA
  ·
    replace hA : At K g [some (.dat ((eT (eP2 (eT eS) eS)) a.1)), some (.dat ((eL eI) a.2.1)), some (.dat ((eL eI) a.2.2)), some (.dat ((eO (eT eI)) r1)), some (.dat ((eL (eP2 eI eI)) r2)), none, none, none, none] _ _ _ := hA
    replace hA := hA.frz
    refine f_setgo hA (fun j z => nomatch z) rfl hm ?_
    change BJ K _ [some (.dat ((eT (eP2 (eT eS) eS)) a.1)), some (.dat ((eL eI) a.2.1)), some (.dat ((eL eI) a.2.2)), some (.dat ((eO (eT eI)) r1)), some (.dat ((eL (eP2 eI eI)) r2)), some (.dat ((eL (eP2 eI eI)) r5.2)), none, none, none] _ _ _ _ _
    refine bj_ifL (evb_test (ev_op (ev_cb1 (ev_var rfl) (o1_lenT r5.2 (eP2 eI eI) (.l .dat))) ev_int o2_c0)) ?_ ?_
    ·
      refine bj_assoc ?_
      refine fun g σ H D hA hm => x_ret ?_
      refine (ev_op (ev_var rfl) ev_non (o2_isN nn_t)) _ _ _ _ _ hA fun v H hA => ?_
      exact hm v H _ (hA.weak1 (.d (.d (.d .nil))) fun j z => nomatch z)
    ·
      refine bj_pass ?_
      refine fun g σ H D hA hm => x_ifS ?_
      refine f_joinT (fun (s : Bool) => [some (.dat ((eT (eP2 (eT eS) eS)) a.1)), some (.dat ((eL eI) a.2.1)), some (.dat ((eL eI) a.2.2)), some (.dat ((eO (eT eI)) r1)), some (.dat ((eL (eP2 eI eI)) r2)), some (.dat ((eL (eP2 eI eI)) r5.2)), none, none, none]) (fun s => s) hA hm (fun hm => ?_) (fun j7 H hA hm => ?_)
      ·
        refine x_orT ?_
        refine (evb_not (evb_B (ev_isi (d := ((dO (dT PyData.int)) r1)) .tuple (ev_var rfl) (.dat (bx_o (bx_t bx_i)))))) _ _ _ _ _ hA fun H hA => ?_
        refine f_pick hm (fun hm => ?_) (fun hm => ?_)
        ·
          exact hm H hA
        ·
          refine x_test ?_
          refine x_op ?_
          refine x_cb1 ?_
          refine (ev_var rfl) _ _ _ _ _ hA fun v H hA => ?_
          refine f_get hA hm fun t8 hA hm => ?_
          refine o1_lenT t8 eI .t _ _ _ _ _ _ hA fun v H hA => ?_
          refine (ev_cb1 (ev_var rfl) (o1_lenT r2 (eP2 eI eI) (.l .dat))) _ _ _ _ _ hA fun v H hA => ?_
          refine o2_neI _ _ _ _ _ _ _ hA fun v H hA => ?_
          refine f_tst (P := fun c H1 => _) hA fun hA => ?_
          exact hm H hA
      ·
        replace hA : At K g [some (.dat ((eT (eP2 (eT eS) eS)) a.1)), some (.dat ((eL eI) a.2.1)), some (.dat ((eL eI) a.2.2)), some (.dat ((eO (eT eI)) r1)), some (.dat ((eL (eP2 eI eI)) r2)), some (.dat ((eL (eP2 eI eI)) r5.2)), none, none, none] _ _ _ := hA
        refine f_ifS hm (fun hm => ?_) (fun hm => ?_)
        ·
          refine bj_go hA hm ?_
          change BJ K _ [some (.dat ((eT (eP2 (eT eS) eS)) a.1)), some (.dat ((eL eI) a.2.1)), some (.dat ((eL eI) a.2.2)), some (.dat ((eO (eT eI)) r1)), some (.dat ((eL (eP2 eI eI)) r2)), some (.dat ((eL (eP2 eI eI)) r5.2)), none, none, none] _ _ _ _ _
          refine bj_assoc ?_
          refine fun g σ H D hA hm => x_ret ?_
          refine ev_bl _ _ _ _ _ hA fun v H hA => ?_
          exact hm v H _ (hA.weak1 (.d (.d (.d .nil))) fun j z => nomatch z)
        ·
          refine bj_go hA hm ?_
          change BJ K _ [some (.dat ((eT (eP2 (eT eS) eS)) a.1)), some (.dat ((eL eI) a.2.1)), some (.dat ((eL eI) a.2.2)), some (.dat ((eO (eT eI)) r1)), some (.dat ((eL (eP2 eI eI)) r2)), some (.dat ((eL (eP2 eI eI)) r5.2)), none, none, none] _ _ _ _ _
          refine bj_pass ?_
          refine fun g σ H D hA hm => x_asg ?_
          refine (ev_cb1 (ev_var rfl) (o1_list (.l .dat))) _ _ _ _ _ hA fun v H hA => ?_
          refine f_setgo hA (fun j z => nomatch z) rfl hm ?_
          change BJ K _ [some (.dat ((eT (eP2 (eT eS) eS)) a.1)), some (.dat ((eL eI) a.2.1)), some (.dat ((eL eI) a.2.2)), some (.dat ((eO (eT eI)) r1)), some (.dat ((eL (eP2 eI eI)) r2)), some (.dat ((eL (eP2 eI eI)) r5.2)), some (.own none (.lst (List.map eI a.2.1))), none, none] _ _ _ _ _
          refine fun g σ H D hA hm => ?_
          refine x_forT ?_
          refine (ev_var rfl) _ _ _ _ _ hA fun v H hA => ?_
          refine f_get hA hm fun t9 hA hm => ?_
          refine wk_tup (xs := t9) (e := eI) hA (f_for (e := eI) (fun (s10 : (List Int)) => [some (.dat ((eT (eP2 (eT eS) eS)) a.1)), none, some (.dat ((eL eI) a.2.2)), none, none, none, some (.own none (.lst (List.map eI s10))), none, none]) (s0 := a.2.1) (.s (.d (.s (.d (.d (.d (.s (.d (.d .nil))))))))) hm (hb_of (e := eI) (js := [7]) (ps := fun b11 => [eI b11]) (fun b => tj_name) (hjl (n := 9) (fun s => rfl) (by decide)) (fun s10 b11 => ?_)) (fun s10 => ?_))
          ·
            change BJ K _ [some (.dat ((eT (eP2 (eT eS) eS)) a.1)), none, some (.dat ((eL eI) a.2.2)), none, none, none, some (.own none (.lst (List.map eI s10))), some (.dat (eI b11)), none] _ _ _ _ _
            refine fun g σ H D hA hm => x_ifS ?_
            refine f_joinT (fun (s : Bool) => [some (.dat ((eT (eP2 (eT eS) eS)) a.1)), none, some (.dat ((eL eI) a.2.2)), none, none, none, some (.own none (.lst (List.map eI s10))), some (.dat (eI b11)), none]) (fun s => s) hA hm (fun hm => ?_) (fun j12 H hA hm => ?_)
            ·
              refine x_orT ?_
              refine x_not ?_
              refine x_B ?_
              refine x_call1 ?_
              refine (ev_var rfl) _ _ _ _ _ hA fun v H hA => ?_
              replace hA := hA.box (Bx.hd (x := b11) bx_i)
              refine f_call [.d (eD (PyData.int b11))] (PyData.int b11) (fun r => []) hA rfl rfl True.intro (fun as h => match as, h with | [], _ => rfl) (fun _ => rfl) (fun r as h => match as, h with | [], _ => rfl) (fun r j z => nomatch z) .nil (hm.bindR.imp (fun r13 hm v H hA => ?_) fun _ q => q)
              refine f_tst (P := fun c H1 => _) hA fun hA => ?_
              refine f_pick hm (fun hm => ?_) (fun hm => ?_)
              ·
                exact hm H hA
              ·
                refine x_orT ?_
                refine (evb_test (ev_op (ev_var rfl) ev_int o2_c0)) _ _ _ _ _ hA fun H hA => ?_
                refine f_pick hm (fun hm => ?_) (fun hm => ?_)
                ·
                  exact hm H hA
                ·
                  refine x_orT ?_
                  refine (evb_test (ev_op (ev_op (ev_var rfl) ev_int o2_i0) (ev_cb1 (ev_own rfl) (o1_lenT s10 eI (.l (.als rfl)))) o2_c0)) _ _ _ _ _ hA fun H hA => ?_
                  refine f_pick hm (fun hm => ?_) (fun hm => ?_)
                  ·
                    exact hm H hA
                  ·
                    refine x_B ?_
                    refine x_call3 ?_
                    refine (ev_var rfl) _ _ _ _ _ hA fun v H hA => ?_
                    refine x_op ?_
                    refine (ev_own rfl) _ _ _ _ _ hA fun v H hA => ?_
                    refine (ev_var rfl) _ _ _ _ _ hA fun v H hA => ?_
                    refine f_o2m (o2_idxL (xs := s10) (e := eI) (.als rfl)) hA hm fun t14 v H hA hm => ?_
                    refine x_op ?_
                    refine (ev_own rfl) _ _ _ _ _ hA fun v H hA => ?_
                    refine (ev_op (ev_var rfl) ev_int o2_i0) _ _ _ _ _ hA fun v H hA => ?_
                    refine f_o2m (o2_idxL (xs := s10) (e := eI) (.als rfl)) hA hm fun t15 v H hA hm => ?_
                    refine f_call [.d ((eT (eP2 (eT eS) eS)) a.1), .d (eI t14), .d (eI t15)] (a.1, t14, t15) (fun r => []) hA rfl rfl True.intro (fun as h => match as, h with | [], _ => rfl) (fun _ => rfl) (fun r as h => match as, h with | [], _ => rfl) (fun r j z => nomatch z) .nil (hm.bindR.imp (fun r16 hm v H hA => ?_) fun _ q => q)
                    refine f_tst (P := fun c H1 => _) hA fun hA => ?_
                    exact hm H hA
            ·
              replace hA : At K g [some (.dat ((eT (eP2 (eT eS) eS)) a.1)), none, some (.dat ((eL eI) a.2.2)), none, none, none, some (.own none (.lst (List.map eI s10))), some (.dat (eI b11)), none] _ _ _ := hA
              refine f_ifS hm (fun hm => ?_) (fun hm => ?_)
              ·
                refine bj_go hA hm ?_
                change BJ K _ [some (.dat ((eT (eP2 (eT eS) eS)) a.1)), none, some (.dat ((eL eI) a.2.2)), none, none, none, some (.own none (.lst (List.map eI s10))), some (.dat (eI b11)), none] _ _ _ _ _
                refine bj_assoc ?_
                refine fun g σ H D hA hm => x_ret ?_
                refine ev_bl _ _ _ _ _ hA fun v H hA => ?_
                exact hm v H _ (hA.weak1 (.d (.d (.d .nil))) fun j z => nomatch z)
              ·
                refine bj_go hA hm ?_
                change BJ K _ [some (.dat ((eT (eP2 (eT eS) eS)) a.1)), none, some (.dat ((eL eI) a.2.2)), none, none, none, some (.own none (.lst (List.map eI s10))), some (.dat (eI b11)), none] _ _ _ _ _
                refine bj_pass ?_
                refine fun g σ H D hA hm => x_asg ?_
                refine x_tup ?_
                refine x_cons ?_
                refine x_op ?_
                refine (ev_own rfl) _ _ _ _ _ hA fun v H hA => ?_
                refine (ev_op (ev_var rfl) ev_int o2_i0) _ _ _ _ _ hA fun v H hA => ?_
                refine f_o2m (o2_idxL (xs := s10) (e := eI) (.als rfl)) hA hm fun t17 v H hA hm => ?_
                refine x_cons ?_
                refine x_op ?_
                refine (ev_own rfl) _ _ _ _ _ hA fun v H hA => ?_
                refine (ev_var rfl) _ _ _ _ _ hA fun v H hA => ?_
                refine f_o2m (o2_idxL (xs := s10) (e := eI) (.als rfl)) hA hm fun t18 v H hA hm => ?_
                refine x_nil ?_
                refine f_tup (vs := [_, _]) [eI t17, eI t18] hA rfl (Nat.le_of_ble_eq_true rfl) fun v H hA => ?_
                refine f_gtup2 (e1 := eI) (e2 := eI) (p := (t17, t18)) hA fun x y hA => ?_
                refine x_gsub ?_
                refine (ev_own rfl) _ _ _ _ _ hA fun v H hA => ?_
                refine (ev_var rfl) _ _ _ _ _ hA fun v H hA => ?_
                refine f_setm (xs := s10) (e := eI) rfl hA hm fun ys19 H hA hm => ?_
                replace hA : At K g [some (.dat ((eT (eP2 (eT eS) eS)) a.1)), none, some (.dat ((eL eI) a.2.2)), none, none, none, some (.own none (.lst (List.map eI ys19))), some (.dat (eI b11)), none] _ _ _ := hA
                refine x_g2 ?_
                refine x_gsub ?_
                refine (ev_own rfl) _ _ _ _ _ hA fun v H hA => ?_
                refine (ev_op (ev_var rfl) ev_int o2_i0) _ _ _ _ _ hA fun v H hA => ?_
                refine f_setm (xs := ys19) (e := eI) rfl hA hm fun ys20 H hA hm => ?_
                replace hA : At K g [some (.dat ((eT (eP2 (eT eS) eS)) a.1)), none, some (.dat ((eL eI) a.2.2)), none, none, none, some (.own none (.lst (List.map eI ys20))), some (.dat (eI b11)), none] _ _ _ := hA
                refine x_gnil ?_
                refine bj_go hA hm ?_
                change BJ K _ [some (.dat ((eT (eP2 (eT eS) eS)) a.1)), none, some (.dat ((eL eI) a.2.2)), none, none, none, some (.own none (.lst (List.map eI ys20))), some (.dat (eI b11)), none] _ _ _ _ _
                exact bj_nx (a := ys20) (.s (.d (.s (.d (.d (.d (.s (.d (.d .nil)))))))))
          ·
            change BJ K _ [some (.dat ((eT (eP2 (eT eS) eS)) a.1)), none, some (.dat ((eL eI) a.2.2)), none, none, none, some (.own none (.lst (List.map eI s10))), none, none] _ _ _ _ _
            refine fun g σ H D hA hm => x_ret ?_
            refine (ev_op (ev_own rfl) (ev_cb1 (ev_var rfl) (o1_list (.l .dat))) (o2_eqD (x := (s10 : (List Int))) (y := (a.2.2 : (List Int))) (.lst bx_i (.als rfl)) (.lst bx_i .own) (eq_l eq_i))) _ _ _ _ _ hA fun v H hA => ?_
            exact hm v H _ (hA.weak1 (.d (.d (.d .nil))) fun j z => nomatch z)
theorem ok_law_word (T : Txt K mg Z) : FnOk P w K mg base (L2.CX P w) 8 Z.f_law_word Z.d_law_word ["turn", "frame", "order", "other"] (Spec K Z.ec 4 pre_law_word f_law_word post_law_word ret_law_word) := by
  refine fn_ok T.d_law_word.F sc_law_word rfl m_law_word fun cdv A outer s H E hr => ?_
  refine ⟨_, (pss_cons (ps_set (i := 4) sc_law_word.nd rfl (Or.inl rfl) (pe_tup (pa_cons pe_str pa_nil)))
  (pss_cons (ps_try rfl rfl sc_law_word.nd (takes_of rfl rfl rfl rfl) (fun W pn xe tk' pso => (pss_cons (ps_if (pt_cmpR op_eq (pv 0) pe_int (nomark _)) (pss_cons (ps_expr (pe_callS (ok_swaps (K := K) T) (hr.mono (by decide)) (by rfl) T.d_swaps.g T.d_swaps.F.kp T.d_swaps.b (fun σ => passAt tk' σ) (pa_cons (pv 1) (pa_cons (pv 2) (pa_cons (pv 3) pa_nil)))))
  pss_nil) (pss_cons (ps_expr (pe_callS (ok_directions (K := K) T) (hr.mono (by decide)) (by rfl) T.d_directions.g T.d_directions.F.kp T.d_directions.b (fun σ => passAt tk' σ) (pa_cons (pv 1) (pa_cons (pv 2) pa_nil))))
  pss_nil))
  pss_nil)) (HsOk.named (i := 5) ⟨by rfl, by decide, .inl T.x_TooMany.g⟩ rfl rfl (fun a oe cls d pn hz hf => (pss_cons (ps_set (i := 4) sc_law_word.nd rfl (Or.inl rfl) (pe_tup (pa_cons pe_str (pa_cons (pe_xf T.x_TooMany.xf (T.x_TooMany.no _ (by decide)) hz hf (pv 5)) pa_nil))))
  pss_nil)) (HsOk.named (i := 5) ⟨by rfl, by decide, .inl T.x_BadBook.g⟩ rfl rfl (fun a oe cls d pn hz hf => (pss_cons (ps_set (i := 4) sc_law_word.nd rfl (Or.inl rfl) (pe_tup (pa_cons (pe_xf T.x_BadBook.xf (T.x_BadBook.no _ (by decide)) hz hf (pv 5)) (pa_cons (pe_xf T.x_BadBook.xf (T.x_BadBook.no _ (by decide)) hz hf (pv 5)) pa_nil))))
  pss_nil)) (HsOk.named (i := 5) ⟨by rfl, by decide, .inl T.x_BadNumber.g⟩ rfl rfl (fun a oe cls d pn hz hf => (pss_cons (ps_set (i := 4) sc_law_word.nd rfl (Or.inl rfl) (pe_tup (pa_cons pe_str (pa_cons (pe_xf T.x_BadNumber.xf (T.x_BadNumber.no _ (by decide)) hz hf (pv 5)) pa_nil))))
  pss_nil)) (HsOk.plain ⟨by rfl, by decide, .inl T.g_RungsError⟩ (fun a oe cls d pn hz hf => (pss_cons (ps_set (i := 4) sc_law_word.nd rfl (Or.inl rfl) (pe_tup (pa_cons pe_str pa_nil)))
  pss_nil)) HsOk.nil)))))
  (pss_cons (ps_ret (pv 4))
  pss_nil))), ?_⟩
  intro a as _
  change BJ K _ [some (.dat (eI a.1)), some (.dat (eD a.2.1)), some (.dat (eD a.2.2.1)), some (.dat (eD a.2.2.2)), none, none] _ _ _ _ _
  refine fun g σ H D hA hm => x_asg ?_
  refine (ev_tup [eS ("none" : Str)] (ea_cons ev_str ea_nil)) _ _ _ _ _ hA fun v H hA => ?_
  replace hA := hA.box (Bx.hd (x := ("none" : Str)) (bx_p1 bx_s))
  refine f_setlt (e := ((dP1 PyData.str) ("none" : Str))) (fun t => .dat (eD t)) hA (fun t j z => nomatch z) rfl hm (fun told_1 => ?_)
  change BJ K _ [some (.dat (eI a.1)), some (.dat (eD a.2.1)), some (.dat (eD a.2.2.1)), some (.dat (eD a.2.2.2)), some (.dat (eD told_1)), none] _ _ _ _ _
  refine bj_seq (n1 := fun (s3 : PyData) => [none, none, none, none, some (.dat (eD s3)), none]) ?_ (fun s3 => ?_)
  ·
    refine bj_try (Gt := [none, none, none, none, some (.dat (eD told_1)), none]) ?_ ?_ (fun W => ?_) ?_
    · rfl
    · exact .nil
    ·
      change BJ K _ [some (.dat (eI a.1)), some (.dat (eD a.2.1)), some (.dat (eD a.2.2.1)), some (.dat (eD a.2.2.2)), some (.dat (eD told_1)), none] _ _ _ _ _
      refine bj_ifL (evb_test (ev_op (ev_var rfl) ev_int o2_eqI)) ?_ ?_
      ·
        refine bj_assoc ?_
        refine fun g σ H D hA hm => x_drop ?_
        refine x_call3 ?_
        refine (ev_var rfl) _ _ _ _ _ hA fun v H hA => ?_
        refine (ev_var rfl) _ _ _ _ _ hA fun v H hA => ?_
        refine (ev_var rfl) _ _ _ _ _ hA fun v H hA => ?_
        refine f_call [.d (eD a.2.1), .d (eD a.2.2.1), .d (eD a.2.2.2)] (a.2.1, a.2.2.1, a.2.2.2) (fun r => []) hA rfl rfl True.intro (fun as h => match as, h with | [], _ => rfl) (fun _ => rfl) (fun r as h => match as, h with | [], _ => rfl) (fun r j z => nomatch z) (.d (.d (.d (.d (.s (.d .nil)))))) (hm.bindR.imp (fun r4 hm v H hA => ?_) fun _ q => q)
        refine f_dropgo hA hm ?_
        change BJ K _ [some (.dat (eI a.1)), some (.dat (eD a.2.1)), some (.dat (eD a.2.2.1)), some (.dat (eD a.2.2.2)), some (.dat (eD told_1)), none] _ _ _ _ _
        refine bj_pass ?_
        exact bj_nx (a := told_1) (.d (.d (.d (.d (.s (.d .nil))))))
      ·
        refine bj_assoc ?_
        refine fun g σ H D hA hm => x_drop ?_
        refine x_call2 ?_
        refine (ev_var rfl) _ _ _ _ _ hA fun v H hA => ?_
        refine (ev_var rfl) _ _ _ _ _ hA fun v H hA => ?_
        refine f_call [.d (eD a.2.1), .d (eD a.2.2.1)] (a.2.1, a.2.2.1) (fun r => []) hA rfl rfl True.intro (fun as h => match as, h with | [], _ => rfl) (fun _ => rfl) (fun r as h => match as, h with | [], _ => rfl) (fun r j z => nomatch z) (.d (.d (.d (.d (.s (.d .nil)))))) (hm.bindR.imp (fun r5 hm v H hA => ?_) fun _ q => q)
        refine f_dropgo hA hm ?_
        change BJ K _ [some (.dat (eI a.1)), some (.dat (eD a.2.1)), some (.dat (eD a.2.2.1)), some (.dat (eD a.2.2.2)), some (.dat (eD told_1)), none] _ _ _ _ _
        refine bj_pass ?_
        exact bj_nx (a := told_1) (.d (.d (.d (.d (.s (.d .nil))))))
    ·
      refine HJ.cons (io := (some 5)) (sub := sub_TooMany) (fun nm r h => T.sub_TooMany nm r h) ?_ (fun x2 ax dx => ?_) ?_
      · intro i z; cases z; exact ⟨(show 5 < 6 by decide), fun a => .inl rfl, fun a => a.elim, fun a => a.elim⟩
      ·
        change BJ K _ [none, none, none, none, some (.dat (eD told_1)), some (.dat (eX ax dx x2))] _ _ _ _ _
        refine fun g σ H D hA hm => x_asg ?_
        refine x_tup ?_
        refine x_cons ?_
        refine ev_str _ _ _ _ _ hA fun v H hA => ?_
        refine x_cons ?_
        refine x_xfm (x := x2) (cn := "TooMany") T.ec_TooMany rfl hA hm fun t6 v H hA hm => ?_
        refine x_nil ?_
        refine f_tup (vs := [_, _]) [eS ("many" : Str), eD t6] hA rfl (Nat.le_of_ble_eq_true rfl) fun v H hA => ?_
        replace hA := hA.box (Bx.hd (x := (("many" : Str), t6)) (bx_p2 bx_s bx_d))
        refine f_setlt (e := ((dP2 PyData.str id) (("many" : Str), t6))) (fun t => .dat (eD t)) hA (fun t j z => nomatch z) rfl hm (fun told_7 => ?_)
        change BJ K _ [none, none, none, none, some (.dat (eD told_7)), some (.dat (eX ax dx x2))] _ _ _ _ _
        exact bj_nx (a := told_7) (.d (.d (.d (.d (.s (.d .nil))))))
      refine HJ.cons (io := (some 5)) (sub := sub_BadBook) (fun nm r h => T.sub_BadBook nm r h) ?_ (fun x2 ax dx => ?_) ?_
      · intro i z; cases z; exact ⟨(show 5 < 6 by decide), fun a => .inl rfl, fun a => a.elim, fun a => a.elim⟩
      ·
        change BJ K _ [none, none, none, none, some (.dat (eD told_1)), some (.dat (eX ax dx x2))] _ _ _ _ _
        refine fun g σ H D hA hm => x_asg ?_
        refine x_tup ?_
        refine x_cons ?_
        refine x_xfm (x := x2) (cn := "BadBook") T.ec_BadBook rfl hA hm fun t8 v H hA hm => ?_
        refine x_cons ?_
        refine x_xfm (x := x2) (cn := "BadBook") T.ec_BadBook rfl hA hm fun t9 v H hA hm => ?_
        refine x_nil ?_
        refine f_tup (vs := [_, _]) [eD t8, eD t9] hA rfl (Nat.le_of_ble_eq_true rfl) fun v H hA => ?_
        replace hA := hA.box (Bx.hd (x := (t8, t9)) (bx_p2 bx_d bx_d))
        refine f_setlt (e := ((dP2 id id) (t8, t9))) (fun t => .dat (eD t)) hA (fun t j z => nomatch z) rfl hm (fun told_10 => ?_)
        change BJ K _ [none, none, none, none, some (.dat (eD told_10)), some (.dat (eX ax dx x2))] _ _ _ _ _
        exact bj_nx (a := told_10) (.d (.d (.d (.d (.s (.d .nil))))))
      refine HJ.cons (io := (some 5)) (sub := sub_BadNumber) (fun nm r h => T.sub_BadNumber nm r h) ?_ (fun x2 ax dx => ?_) ?_
      · intro i z; cases z; exact ⟨(show 5 < 6 by decide), fun a => .inl rfl, fun a => a.elim, fun a => a.elim⟩
      ·
        change BJ K _ [none, none, none, none, some (.dat (eD told_1)), some (.dat (eX ax dx x2))] _ _ _ _ _
        refine fun g σ H D hA hm => x_asg ?_
        refine x_tup ?_
        refine x_cons ?_
        refine ev_str _ _ _ _ _ hA fun v H hA => ?_
        refine x_cons ?_
        refine x_xfm (x := x2) (cn := "BadNumber") T.ec_BadNumber rfl hA hm fun t11 v H hA hm => ?_
        refine x_nil ?_
        refine f_tup (vs := [_, _]) [eS ("number" : Str), eD t11] hA rfl (Nat.le_of_ble_eq_true rfl) fun v H hA => ?_
        replace hA := hA.box (Bx.hd (x := (("number" : Str), t11)) (bx_p2 bx_s bx_d))
        refine f_setlt (e := ((dP2 PyData.str id) (("number" : Str), t11))) (fun t => .dat (eD t)) hA (fun t j z => nomatch z) rfl hm (fun told_12 => ?_)
        change BJ K _ [none, none, none, none, some (.dat (eD told_12)), some (.dat (eX ax dx x2))] _ _ _ _ _
        exact bj_nx (a := told_12) (.d (.d (.d (.d (.s (.d .nil))))))
      refine HJ.cons (io := none) (sub := sub_RungsError) (fun nm r h => T.sub_RungsError nm r h) ?_ (fun x2 ax dx => ?_) ?_
      · intro i z; cases z
      ·
        change BJ K _ [none, none, none, none, some (.dat (eD told_1)), none] _ _ _ _ _
        refine fun g σ H D hA hm => x_asg ?_
        refine (ev_tup [eS ("other" : Str)] (ea_cons ev_str ea_nil)) _ _ _ _ _ hA fun v H hA => ?_
        replace hA := hA.box (Bx.hd (x := ("other" : Str)) (bx_p1 bx_s))
        refine f_setlt (e := ((dP1 PyData.str) ("other" : Str))) (fun t => .dat (eD t)) hA (fun t j z => nomatch z) rfl hm (fun told_13 => ?_)
        change BJ K _ [none, none, none, none, some (.dat (eD told_13)), none] _ _ _ _ _
        exact bj_nx (a := told_13) (.d (.d (.d (.d (.s (.d .nil))))))
      exact HJ.nil
  ·
    change BJ K _ [none, none, none, none, some (.dat (eD s3)), none] _ _ _ _ _
    refine fun g σ H D hA hm => x_ret ?_
    refine (ev_var rfl) _ _ _ _ _ hA fun v H hA => ?_
    exact hm v H _ (hA.weak1 (.d (.d (.d (.d .nil)))) fun j z => nomatch z)
theorem ok_law_refused (T : Txt K mg Z) : FnOk P w K mg base (L2.CX P w) 9 Z.f_law_refused Z.d_law_refused ["pool", "frame", "order"] (Spec K Z.ec 3 pre_law_refused f_law_refused post_law_refused ret_law_refused) := by
  refine fn_ok T.d_law_refused.F sc_law_refused rfl m_law_refused fun cdv A outer s H E hr => ?_
  refine ⟨_, (pss_cons (ps_set (i := 3) sc_law_refused.nd rfl (Or.inl rfl) (pe_callB (r := Gv.rLen K) c_len (by rfl) T.z_len (by decide +kernel) (pa_cons (pv 2) pa_nil)))
  (pss_cons (ps_for (passes_of rfl) rfl (pi_list (pe_lst (pa_cons (pe_slice (r := rSlL K) sl_list (pv 2) (po_some pe_int) po_none) (pa_cons (pe_op (r := rCatS K) op_catS (pv 2) (pe_lst (pa_cons pe_int pa_nil))) (pa_cons (pe_op op_cat (pe_lst (pa_cons (pv 3) pa_nil)) (pe_slice (r := rSlL K) sl_list (pv 2) (po_some pe_int) po_none)) (pa_cons (pe_op op_cat (pe_lst (pa_cons (pe_un un_neg pe_int) pa_nil)) (pe_slice (r := rSlL K) sl_list (pv 2) (po_some pe_int) po_none)) (pa_cons (pe_op (r := rCatS K) op_catS (pe_lst (pa_cons pe_bl pa_nil)) (pe_slice (r := rSlL K) sl_list (pv 2) (po_some pe_int) po_none)) (pa_cons pe_non (pa_cons pe_int (pa_cons pe_str pa_nil)))))))))) (pg_name (i := 4) sc_law_refused.nd rfl (Or.inl rfl)) (pss_cons (ps_for (passes_of rfl) rfl (pi_range1 (by rfl) T.z_range (pa_cons pe_int pa_nil)) (pg_name (i := 5) sc_law_refused.nd rfl (Or.inl rfl)) (pss_cons (ps_if (pt_cmpR (r := rNeD K) (op_neD hr.units) (pe_callS (ok_law_word (K := K) T) (hr.mono (by decide)) (by rfl) T.d_law_word.g T.d_law_word.F.kp T.d_law_word.b (fun σ => passAt (takes_of rfl rfl rfl rfl) σ) (pa_cons (pv 5) (pa_cons (pv 1) (pa_cons (pv 4) (pa_cons pe_non pa_nil))))) (pe_tup (pa_cons pe_str (pa_cons pe_str pa_nil))) (nomark _)) (pss_cons (ps_ret pe_bl)
  pss_nil) pss_nil)
  pss_nil))
  (pss_cons (ps_if (pt_cmpR (r := rNeD K) (op_neD hr.units) (pe_callS (ok_law_word (K := K) T) (hr.mono (by decide)) (by rfl) T.d_law_word.g T.d_law_word.F.kp T.d_law_word.b (fun σ => passAt (takes_of rfl rfl rfl rfl) σ) (pa_cons pe_int (pa_cons (pv 1) (pa_cons (pv 2) (pa_cons (pv 4) pa_nil))))) (pe_tup (pa_cons pe_str (pa_cons pe_str pa_nil))) (nomark _)) (pss_cons (ps_ret pe_bl)
  pss_nil) pss_nil)
  pss_nil)))
  (pss_cons (ps_if (pt_cmpR op_gt (pv 3) pe_int (nomark _)) (pss_cons (ps_setLc (i := 6) (own := [("k", 7)]) (g := gName 7) rfl sc_law_refused.nd rfl rfl (sw_true rfl rfl rfl (by decide +kernel)) (pi_range1 (by rfl) T.z_range (pa_cons (pv 3) pa_nil)) (blkOk_by (N := ["pool", "frame", "order", "many", "bad", "turn", "twice", "k", "name"]) (sc := defScope st_law_refused) (by decide +kernel)) (fun _ _ _ _ _ => (pg_name (i := 7) sc_law_refused.nd rfl (Or.inl rfl))) (fun _ _ _ _ _ => pts_nil) (fun _ _ _ _ _ => (pe_ix (r := rIxL K) ix_list (pv 2) pe_int (fun _ _ => rfl))))
  (pss_cons (ps_if (pt_cmpR (r := rNeD K) (op_neD hr.units) (pe_callS (ok_law_word (K := K) T) (hr.mono (by decide)) (by rfl) T.d_law_word.g T.d_law_word.F.kp T.d_law_word.b (fun σ => passAt (takes_of rfl rfl rfl rfl) σ) (pa_cons pe_int (pa_cons (pv 1) (pa_cons (pv 2) (pa_cons (pv 6) pa_nil))))) (pe_tup (pa_cons pe_str (pa_cons pe_str pa_nil))) (nomark _)) (pss_cons (ps_ret pe_bl)
  pss_nil) pss_nil)
  (pss_cons (ps_if (pt_cmpR (r := rNeD K) (op_neD hr.units) (pe_callS (ok_law_word (K := K) T) (hr.mono (by decide)) (by rfl) T.d_law_word.g T.d_law_word.F.kp T.d_law_word.b (fun σ => passAt (takes_of rfl rfl rfl rfl) σ) (pa_cons pe_int (pa_cons (pv 1) (pa_cons (pv 6) (pa_cons pe_int pa_nil))))) (pe_tup (pa_cons pe_str (pa_cons pe_str pa_nil))) (nomark _)) (pss_cons (ps_ret pe_bl)
  pss_nil) pss_nil)
  pss_nil))) pss_nil)
  (pss_cons (ps_for (passes_of rfl) rfl (pi_range1 (by rfl) T.z_range (pa_cons pe_int pa_nil)) (pg_name (i := 5) sc_law_refused.nd rfl (Or.inl rfl)) (pss_cons (ps_if (pt_cmpR (r := rNeD K) (op_neD hr.units) (pe_callS (ok_law_word (K := K) T) (hr.mono (by decide)) (by rfl) T.d_law_word.g T.d_law_word.F.kp T.d_law_word.b (fun σ => passAt (takes_of rfl rfl rfl rfl) σ) (pa_cons (pv 5) (pa_cons (pe_callTy (r := rTuple K) c_tuple (by rfl) T.z_tuple (by decide +kernel) (pa_cons (pe_lc (own := [("name", 8)]) (g := gName 8) rfl sc_law_refused.nd (pi_list (pe_slice (r := rSlL K) sl_list (pv 0) po_none (po_some pe_int))) (blkOk_by (N := ["pool", "frame", "order", "many", "bad", "turn", "twice", "k", "name"]) (sc := defScope st_law_refused) (by decide +kernel)) (fun _ _ _ _ _ => (pg_name (i := 8) sc_law_refused.nd rfl (Or.inl rfl))) (fun _ _ _ _ _ => pts_nil) (fun _ _ _ _ _ => (pe_tup (pa_cons (pe_tup pa_nil) (pa_cons (pv 8) pa_nil))))) pa_nil)) (pa_cons pe_non (pa_cons pe_non pa_nil))))) (pe_tup (pa_cons pe_str (pa_cons pe_int pa_nil))) (nomark _)) (pss_cons (ps_ret pe_bl)
  pss_nil) pss_nil)
  (pss_cons (ps_if (pt_cmpR (r := rNeD K) (op_neD hr.units) (pe_callS (ok_law_word (K := K) T) (hr.mono (by decide)) (by rfl) T.d_law_word.g T.d_law_word.F.kp T.d_law_word.b (fun σ => passAt (takes_of rfl rfl rfl rfl) σ) (pa_cons (pv 5) (pa_cons (pe_op (r := rCatA K) op_catA (pv 1) (pe_tup (pa_cons (pe_ix (r := rIxT K) ix_tup (pv 1) pe_int (fun _ _ => rfl)) pa_nil))) (pa_cons pe_non (pa_cons pe_non pa_nil))))) (pe_ix (r := rIxL K) ix_list (pe_lst (pa_cons (pe_tup (pa_cons pe_str (pa_cons (pv 3) pa_nil))) (pa_cons (pe_tup (pa_cons pe_str (pa_cons pe_int pa_nil))) pa_nil))) (pe_callTy c_int (by rfl) T.z_int (by decide +kernel) (pa_cons (pe_cmpR op_eq (pv 3) pe_int (nomark _)) pa_nil)) (fun _ _ => rfl)) (nomark _)) (pss_cons (ps_ret pe_bl)
  pss_nil) pss_nil)
  (pss_cons (ps_if (pt_cmpR (r := rNeD K) (op_neD hr.units) (pe_callS (ok_law_word (K := K) T) (hr.mono (by decide)) (by rfl) T.d_law_word.g T.d_law_word.F.kp T.d_law_word.b (fun σ => passAt (takes_of rfl rfl rfl rfl) σ) (pa_cons (pv 5) (pa_cons (pe_tup (pa_cons (pe_tup (pa_cons (pe_tup pa_nil) (pa_cons (pe_ix (r := rIxL K) ix_list (pv 0) pe_int (fun _ _ => rfl)) pa_nil))) (pa_cons (pe_tup (pa_cons (pe_tup (pa_cons (pe_ix (r := rIxL K) ix_list (pv 0) pe_int (fun _ _ => rfl)) (pa_cons (pe_ix (r := rIxL K) ix_list (pv 0) pe_int (fun _ _ => rfl)) pa_nil))) (pa_cons (pe_ix (r := rIxL K) ix_list (pv 0) pe_int (fun _ _ => rfl)) pa_nil))) pa_nil))) (pa_cons pe_non (pa_cons pe_non pa_nil))))) (pe_tup (pa_cons pe_str (pa_cons pe_int pa_nil))) (nomark _)) (pss_cons (ps_ret pe_bl)
  pss_nil) pss_nil)
  pss_nil))))
  (pss_cons (ps_ret pe_bl)
  pss_nil))))), ?_⟩
  intro a as _
  change BJ K _ [some (.dat ((eL eS) a.1)), some (.dat ((eT (eP2 (eT eS) eS)) a.2.1)), some (.dat ((eL eI) a.2.2)), none, none, none, none, none, none] _ _ _ _ _
  refine fun g σ H D hA hm => x_asg ?_
  refine (ev_cb1 (ev_var rfl) (o1_lenT a.2.2 eI (.l .dat))) _ _ _ _ _ hA fun v H hA => ?_
  refine f_setlt (e := ((a.2.2).length : Int)) (fun t => .dat (eI t)) hA (fun t j z => nomatch z) rfl hm (fun many_1 => ?_)
  change BJ K _ [some (.dat ((eL eS) a.1)), some (.dat ((eT (eP2 (eT eS) eS)) a.2.1)), some (.dat ((eL eI) a.2.2)), some (.dat (eI many_1)), none, none, none, none, none] _ _ _ _ _
  refine fun g σ H D hA hm => ?_
  refine x_forL ?_
  refine x_lst ?_
  refine x_cons ?_
  refine (ev_slice (ev_var rfl) (evo_some ev_int) evo_none (o1_cutLT (xs := a.2.2) (e := eI) .dat)) _ _ _ _ _ hA fun v H hA => ?_
  replace hA := hA.frz
  replace hA := hA.box (Bx.hd (x := (cutL a.2.2 (some (1 : Int)) none)) (bx_l bx_i))
  refine x_cons ?_
  refine x_op ?_
  refine (ev_var rfl) _ _ _ _ _ hA fun v H hA => ?_
  refine (ev_lst [eI (0 : Int)] (ea_cons ev_int ea_nil)) _ _ _ _ _ hA fun v H hA => ?_
  refine f_o2m (o2_catS (xs := a.2.2) (ys := [(0 : Int)]) (e := eI) .dat .own) hA hm fun t2 v H hA hm => ?_
  replace hA := hA.frz
  replace hA := hA.box (Bx.hd (x := t2) (bx_l bx_i))
  refine x_cons ?_
  refine x_op ?_
  refine (ev_lst [eI many_1] (ea_cons (ev_var rfl) ea_nil)) _ _ _ _ _ hA fun v H hA => ?_
  refine (ev_slice (ev_var rfl) (evo_some ev_int) evo_none (o1_cutLT (xs := a.2.2) (e := eI) .dat)) _ _ _ _ _ hA fun v H hA => ?_
  refine f_o2m (o2_catL (xs := [many_1]) (ys := (cutL a.2.2 (some (1 : Int)) none)) (e := eI) .own .own) hA hm fun t3 v H hA hm => ?_
  replace hA := hA.frz
  replace hA := hA.box (Bx.hd (x := t3) (bx_l bx_i))
  refine x_cons ?_
  refine x_op ?_
  refine (ev_lst [eI (-(1 : Int))] (ea_cons (ev_un ev_int o1_neg) ea_nil)) _ _ _ _ _ hA fun v H hA => ?_
  refine (ev_slice (ev_var rfl) (evo_some ev_int) evo_none (o1_cutLT (xs := a.2.2) (e := eI) .dat)) _ _ _ _ _ hA fun v H hA => ?_
  refine f_o2m (o2_catL (xs := [(-(1 : Int))]) (ys := (cutL a.2.2 (some (1 : Int)) none)) (e := eI) .own .own) hA hm fun t4 v H hA hm => ?_
  replace hA := hA.frz
  replace hA := hA.box (Bx.hd (x := t4) (bx_l bx_i))
  refine x_cons ?_
  refine x_op ?_
  refine (ev_lst [eB true] (ea_cons ev_bl ea_nil)) _ _ _ _ _ hA fun v H hA => ?_
  refine (ev_slice (ev_var rfl) (evo_some ev_int) evo_none (o1_cutLT (xs := a.2.2) (e := eI) .dat)) _ _ _ _ _ hA fun v H hA => ?_
  refine f_o2m (o2_catB (xs := [true]) (ys := (cutL a.2.2 (some (1 : Int)) none)) bx_b bx_i .own .own) hA hm fun t5 v H hA hm => ?_
  replace hA := hA.frz
  replace hA := hA.box (Bx.hd (x := t5) (bx_l bx_d))
  refine x_cons ?_
  refine ev_non _ _ _ _ _ hA fun v H hA => ?_
  replace hA := hA.box (Bx.hd (x := ()) bx_n)
  refine x_cons ?_
  refine ev_int _ _ _ _ _ hA fun v H hA => ?_
  replace hA := hA.box (Bx.hd (x := (3 : Int)) bx_i)
  refine x_cons ?_
  refine ev_str _ _ _ _ _ hA fun v H hA => ?_
  replace hA := hA.box (Bx.hd (x := ("0" : Str)) bx_s)
  refine x_nil ?_
  refine f_lst (vs := [_, _, _, _, _, _, _, _]) [eD ((dL PyData.int) (cutL a.2.2 (some (1 : Int)) none)), eD ((dL PyData.int) t2), eD ((dL PyData.int) t3), eD ((dL PyData.int) t4), eD ((dL id) t5), eD (dN ()), eD (PyData.int (3 : Int)), eD (PyData.str ("0" : Str))] hA rfl (Nat.le_of_ble_eq_true rfl) fun v H hA => ?_
  replace hA := hA.frz
  refine wk_list (xs := [((dL PyData.int) (cutL a.2.2 (some (1 : Int)) none)), ((dL PyData.int) t2), ((dL PyData.int) t3), ((dL PyData.int) t4), ((dL id) t5), (dN ()), (PyData.int (3 : Int)), (PyData.str ("0" : Str))]) (e := eD) hA (f_for (e := eD) (fun (s6 : Unit) => [some (.dat ((eL eS) a.1)), some (.dat ((eT (eP2 (eT eS) eS)) a.2.1)), some (.dat ((eL eI) a.2.2)), some (.dat (eI many_1)), none, none, none, none, none]) (s0 := ()) (.s (.s (.s (.s (.d (.d (.d (.d (.d .nil))))))))) hm (hb_of (e := eD) (js := [4]) (ps := fun b7 => [eD b7]) (fun b => tj_name) (hjl (n := 9) (fun s => rfl) (by decide)) (fun s6 b7 => ?_)) (fun s6 => ?_))
  ·
    change BJ K _ [some (.dat ((eL eS) a.1)), some (.dat ((eT (eP2 (eT eS) eS)) a.2.1)), some (.dat ((eL eI) a.2.2)), some (.dat (eI many_1)), some (.dat (eD b7)), none, none, none, none] _ _ _ _ _
    refine fun g σ H D hA hm => ?_
    refine x_forR1 ?_
    refine ev_int _ _ _ _ _ hA fun v H hA => ?_
    refine f_rng1 (b := (2 : Int)) hA hm fun hm => f_for (e := eI) (fun (s9 : Unit) => [some (.dat ((eL eS) a.1)), some (.dat ((eT (eP2 (eT eS) eS)) a.2.1)), some (.dat ((eL eI) a.2.2)), some (.dat (eI many_1)), some (.dat (eD b7)), none, none, none, none]) (s0 := ()) (.s (.s (.s (.s (.s (.d (.d (.d (.d .nil))))))))) hm (hb_of (e := eI) (js := [5]) (ps := fun b10 => [eI b10]) (fun b => tj_name) (hjl (n := 9) (fun s => rfl) (by decide)) (fun s9 b10 => ?_)) (fun s9 => ?_)
    ·
      change BJ K _ [some (.dat ((eL eS) a.1)), some (.dat ((eT (eP2 (eT eS) eS)) a.2.1)), some (.dat ((eL eI) a.2.2)), some (.dat (eI many_1)), some (.dat (eD b7)), some (.dat (eI b10)), none, none, none] _ _ _ _ _
      refine fun g σ H D hA hm => x_ifS ?_
      refine x_test ?_
      refine x_op ?_
      refine x_call4 ?_
      refine (ev_var rfl) _ _ _ _ _ hA fun v H hA => ?_
      refine (ev_var rfl) _ _ _ _ _ hA fun v H hA => ?_
      replace hA := hA.box (Bx.hd (x := a.2.1) (bx_t (bx_p2 (bx_t bx_s) bx_s)))
      refine (ev_var rfl) _ _ _ _ _ hA fun v H hA => ?_
      refine ev_non _ _ _ _ _ hA fun v H hA => ?_
      replace hA := hA.box (Bx.hd (x := ()) bx_n)
      refine f_call [.d (eI b10), .d (eD ((dT (dP2 (dT PyData.str) PyData.str)) a.2.1)), .d (eD b7), .d (eD (dN ()))] (b10, ((dT (dP2 (dT PyData.str) PyData.str)) a.2.1), b7, (dN ())) (fun r => []) hA rfl rfl True.intro (fun as h => match as, h with | [], _ => rfl) (fun _ => rfl) (fun r as h => match as, h with | [], _ => rfl) (fun r j z => nomatch z) .nil (hm.bindR.imp (fun r11 hm v H hA => ?_) fun _ q => q)
      refine (ev_tup [eS ("number" : Str), eS ("order" : Str)] (ea_cons ev_str (ea_cons ev_str ea_nil))) _ _ _ _ _ hA fun v H hA => ?_
      refine f_o2m (o2_neDM (a := r11) (b := ((dP2 PyData.str PyData.str) (("number" : Str), ("order" : Str)))) dpt_d (.dat (bx_p2 bx_s bx_s))) hA hm fun t12 v H hA hm => ?_
      refine f_tst (P := fun c H1 => _) hA fun hA => ?_
      refine f_ifS hm (fun hm => ?_) (fun hm => ?_)
      ·
        refine bj_go hA hm ?_
        change BJ K _ [some (.dat ((eL eS) a.1)), some (.dat ((eT (eP2 (eT eS) eS)) a.2.1)), some (.dat ((eL eI) a.2.2)), some (.dat (eI many_1)), some (.dat (eD b7)), some (.dat (eI b10)), none, none, none] _ _ _ _ _
        refine bj_assoc ?_
        refine fun g σ H D hA hm => x_ret ?_
        refine ev_bl _ _ _ _ _ hA fun v H hA => ?_
        exact hm v H _ (hA.weak1 (.d (.d (.d .nil))) fun j z => nomatch z)
      ·
        refine bj_go hA hm ?_
        change BJ K _ [some (.dat ((eL eS) a.1)), some (.dat ((eT (eP2 (eT eS) eS)) a.2.1)), some (.dat ((eL eI) a.2.2)), some (.dat (eI many_1)), some (.dat (eD b7)), some (.dat (eI b10)), none, none, none] _ _ _ _ _
        refine bj_pass ?_
        exact bj_nx (a := ()) (.s (.s (.s (.s (.s (.d (.d (.d (.d .nil)))))))))
    ·
      change BJ K _ [some (.dat ((eL eS) a.1)), some (.dat ((eT (eP2 (eT eS) eS)) a.2.1)), some (.dat ((eL eI) a.2.2)), some (.dat (eI many_1)), some (.dat (eD b7)), none, none, none, none] _ _ _ _ _
      refine fun g σ H D hA hm => x_ifS ?_
      refine x_test ?_
      refine x_op ?_
      refine x_call4 ?_
      refine ev_int _ _ _ _ _ hA fun v H hA => ?_
      refine (ev_var rfl) _ _ _ _ _ hA fun v H hA => ?_
      replace hA := hA.box (Bx.hd (x := a.2.1) (bx_t (bx_p2 (bx_t bx_s) bx_s)))
      refine (ev_var rfl) _ _ _ _ _ hA fun v H hA => ?_
      replace hA := hA.box (Bx.hd (x := a.2.2) (bx_l bx_i))
      refine (ev_var rfl) _ _ _ _ _ hA fun v H hA => ?_
      refine f_call [.d (eI (0 : Int)), .d (eD ((dT (dP2 (dT PyData.str) PyData.str)) a.2.1)), .d (eD ((dL PyData.int) a.2.2)), .d (eD b7)] ((0 : Int), ((dT (dP2 (dT PyData.str) PyData.str)) a.2.1), ((dL PyData.int) a.2.2), b7) (fun r => []) hA rfl rfl True.intro (fun as h => match as, h with | [], _ => rfl) (fun _ => rfl) (fun r as h => match as, h with | [], _ => rfl) (fun r j z => nomatch z) .nil (hm.bindR.imp (fun r13 hm v H hA => ?_) fun _ q => q)
      refine (ev_tup [eS ("number" : Str), eS ("other" : Str)] (ea_cons ev_str (ea_cons ev_str ea_nil))) _ _ _ _ _ hA fun v H hA => ?_
      refine f_o2m (o2_neDM (a := r13) (b := ((dP2 PyData.str PyData.str) (("number" : Str), ("other" : Str)))) dpt_d (.dat (bx_p2 bx_s bx_s))) hA hm fun t14 v H hA hm => ?_
      refine f_tst (P := fun c H1 => _) hA fun hA => ?_
      refine f_ifS hm (fun hm => ?_) (fun hm => ?_)
      ·
        refine bj_go hA hm ?_
        change BJ K _ [some (.dat ((eL eS) a.1)), some (.dat ((eT (eP2 (eT eS) eS)) a.2.1)), some (.dat ((eL eI) a.2.2)), some (.dat (eI many_1)), some (.dat (eD b7)), none, none, none, none] _ _ _ _ _
        refine bj_assoc ?_
        refine fun g σ H D hA hm => x_ret ?_
        refine ev_bl _ _ _ _ _ hA fun v H hA => ?_
        exact hm v H _ (hA.weak1 (.d (.d (.d .nil))) fun j z => nomatch z)
      ·
        refine bj_go hA hm ?_
        change BJ K _ [some (.dat ((eL eS) a.1)), some (.dat ((eT (eP2 (eT eS) eS)) a.2.1)), some (.dat ((eL eI) a.2.2)), some (.dat (eI many_1)), some (.dat (eD b7)), none, none, none, none] _ _ _ _ _
        refine bj_pass ?_
        exact bj_nx (a := ()) (.s (.s (.s (.s (.d (.d (.d (.d (.d .nil)))))))))
  ·
    change BJ K _ [some (.dat ((eL eS) a.1)), some (.dat ((eT (eP2 (eT eS) eS)) a.2.1)), some (.dat ((eL eI) a.2.2)), some (.dat (eI many_1)), none, none, none, none, none] _ _ _ _ _
    refine bj_seq (n1 := fun (s15 : Unit) => [some (.dat ((eL eS) a.1)), some (.dat ((eT (eP2 (eT eS) eS)) a.2.1)), none, some (.dat (eI many_1)), none, none, none, none, none]) ?_ (fun s15 => ?_)
    ·
      refine bj_if (evb_test (ev_op (ev_var rfl) ev_int o2_c0)) ?_ ?_
      ·
        refine fun g σ H D hA hm => x_asg ?_
        refine x_lcR1 ?_
        refine (ev_var rfl) _ _ _ _ _ hA fun v H hA => ?_
        refine f_rng1 (b := many_1) hA hm fun hm => f_lcW (e := eI) (enc := eI) (js := [7]) (ps := fun b17 => [eI b17]) (fun (s18 : Unit) => [some (.dat ((eL eS) a.1)), some (.dat ((eT (eP2 (eT eS) eS)) a.2.1)), some (.dat ((eL eI) a.2.2)), some (.dat (eI many_1)), none, none, none, none, none]) (()) (fun b => tj_name) (by decide) (hnl fun s => rfl) (hnl fun s => rfl) (by decide) (lj_fwd fun s18 b17 g σ τ H Q Qn hA hm => ?_) hm (fun r19 v H hA hm => ?_)
        ·
          replace hA : At K g [some (.dat ((eL eS) a.1)), some (.dat ((eT (eP2 (eT eS) eS)) a.2.1)), some (.dat ((eL eI) a.2.2)), some (.dat (eI many_1)), none, none, none, some (.dat (eI b17)), none] _ _ _ := hA
          refine x_yes ?_
          refine x_op ?_
          refine (ev_var rfl) _ _ _ _ _ hA fun v H hA => ?_
          refine ev_int _ _ _ _ _ hA fun v H hA => ?_
          refine f_o2m (o2_idxL (xs := a.2.2) (e := eI) .dat) hA hm fun t20 v H hA hm => ?_
          exact hm v H hA
        ·
          replace hA : At K g [some (.dat ((eL eS) a.1)), some (.dat ((eT (eP2 (eT eS) eS)) a.2.1)), some (.dat ((eL eI) a.2.2)), some (.dat (eI many_1)), none, none, none, none, none] _ _ _ := hA
          replace hA := hA.frz
          refine f_setgo hA (fun j z => nomatch z) rfl hm ?_
          change BJ K _ [some (.dat ((eL eS) a.1)), some (.dat ((eT (eP2 (eT eS) eS)) a.2.1)), some (.dat ((eL eI) a.2.2)), some (.dat (eI many_1)), none, none, some (.dat ((eL eI) r19.2)), none, none] _ _ _ _ _
          refine fun g σ H D hA hm => x_ifS ?_
          refine x_test ?_
          refine x_op ?_
          refine x_call4 ?_
          refine ev_int _ _ _ _ _ hA fun v H hA => ?_
          refine (ev_var rfl) _ _ _ _ _ hA fun v H hA => ?_
          replace hA := hA.box (Bx.hd (x := a.2.1) (bx_t (bx_p2 (bx_t bx_s) bx_s)))
          refine (ev_var rfl) _ _ _ _ _ hA fun v H hA => ?_
          replace hA := hA.box (Bx.hd (x := a.2.2) (bx_l bx_i))
          refine (ev_var rfl) _ _ _ _ _ hA fun v H hA => ?_
          replace hA := hA.box (Bx.hd (x := r19.2) (bx_l bx_i))
          refine f_call [.d (eI (0 : Int)), .d (eD ((dT (dP2 (dT PyData.str) PyData.str)) a.2.1)), .d (eD ((dL PyData.int) a.2.2)), .d (eD ((dL PyData.int) r19.2))] ((0 : Int), ((dT (dP2 (dT PyData.str) PyData.str)) a.2.1), ((dL PyData.int) a.2.2), ((dL PyData.int) r19.2)) (fun r => []) hA rfl rfl True.intro (fun as h => match as, h with | [], _ => rfl) (fun _ => rfl) (fun r as h => match as, h with | [], _ => rfl) (fun r j z => nomatch z) .nil (hm.bindR.imp (fun r21 hm v H hA => ?_) fun _ q => q)
          refine (ev_tup [eS ("number" : Str), eS ("other" : Str)] (ea_cons ev_str (ea_cons ev_str ea_nil))) _ _ _ _ _ hA fun v H hA => ?_
          refine f_o2m (o2_neDM (a := r21) (b := ((dP2 PyData.str PyData.str) (("number" : Str), ("other" : Str)))) dpt_d (.dat (bx_p2 bx_s bx_s))) hA hm fun t22 v H hA hm => ?_
          refine f_tst (P := fun c H1 => _) hA fun hA => ?_
          refine f_ifS hm (fun hm => ?_) (fun hm => ?_)
          ·
            refine bj_go hA hm ?_
            change BJ K _ [some (.dat ((eL eS) a.1)), some (.dat ((eT (eP2 (eT eS) eS)) a.2.1)), some (.dat ((eL eI) a.2.2)), some (.dat (eI many_1)), none, none, some (.dat ((eL eI) r19.2)), none, none] _ _ _ _ _
            refine bj_assoc ?_
            refine fun g σ H D hA hm => x_ret ?_
            refine ev_bl _ _ _ _ _ hA fun v H hA => ?_
            exact hm v H _ (hA.weak1 (.d (.d (.d .nil))) fun j z => nomatch z)
          ·
            refine bj_go hA hm ?_
            change BJ K _ [some (.dat ((eL eS) a.1)), some (.dat ((eT (eP2 (eT eS) eS)) a.2.1)), some (.dat ((eL eI) a.2.2)), some (.dat (eI many_1)), none, none, some (.dat ((eL eI) r19.2)), none, none] _ _ _ _ _
            refine bj_pass ?_
            refine fun g σ H D hA hm => x_ifS ?_
            refine x_test ?_
            refine x_op ?_
            refine x_call4 ?_
            refine ev_int _ _ _ _ _ hA fun v H hA => ?_
            refine (ev_var rfl) _ _ _ _ _ hA fun v H hA => ?_
            replace hA := hA.box (Bx.hd (x := a.2.1) (bx_t (bx_p2 (bx_t bx_s) bx_s)))
            refine (ev_var rfl) _ _ _ _ _ hA fun v H hA => ?_
            replace hA := hA.box (Bx.hd (x := r19.2) (bx_l bx_i))
            refine ev_int _ _ _ _ _ hA fun v H hA => ?_
            replace hA := hA.box (Bx.hd (x := (0 : Int)) bx_i)
            refine f_call [.d (eI (1 : Int)), .d (eD ((dT (dP2 (dT PyData.str) PyData.str)) a.2.1)), .d (eD ((dL PyData.int) r19.2)), .d (eD (PyData.int (0 : Int)))] ((1 : Int), ((dT (dP2 (dT PyData.str) PyData.str)) a.2.1), ((dL PyData.int) r19.2), (PyData.int (0 : Int))) (fun r => []) hA rfl rfl True.intro (fun as h => match as, h with | [], _ => rfl) (fun _ => rfl) (fun r as h => match as, h with | [], _ => rfl) (fun r j z => nomatch z) .nil (hm.bindR.imp (fun r23 hm v H hA => ?_) fun _ q => q)
            refine (ev_tup [eS ("number" : Str), eS ("order" : Str)] (ea_cons ev_str (ea_cons ev_str ea_nil))) _ _ _ _ _ hA fun v H hA => ?_
            refine f_o2m (o2_neDM (a := r23) (b := ((dP2 PyData.str PyData.str) (("number" : Str), ("order" : Str)))) dpt_d (.dat (bx_p2 bx_s bx_s))) hA hm fun t24 v H hA hm => ?_
            refine f_tst (P := fun c H1 => _) hA fun hA => ?_
            refine f_ifS hm (fun hm => ?_) (fun hm => ?_)
            ·
              refine bj_go hA hm ?_
              change BJ K _ [some (.dat ((eL eS) a.1)), some (.dat ((eT (eP2 (eT eS) eS)) a.2.1)), some (.dat ((eL eI) a.2.2)), some (.dat (eI many_1)), none, none, some (.dat ((eL eI) r19.2)), none, none] _ _ _ _ _
              refine bj_assoc ?_
              refine fun g σ H D hA hm => x_ret ?_
              refine ev_bl _ _ _ _ _ hA fun v H hA => ?_
              exact hm v H _ (hA.weak1 (.d (.d (.d .nil))) fun j z => nomatch z)
            ·
              refine bj_go hA hm ?_
              change BJ K _ [some (.dat ((eL eS) a.1)), some (.dat ((eT (eP2 (eT eS) eS)) a.2.1)), some (.dat ((eL eI) a.2.2)), some (.dat (eI many_1)), none, none, some (.dat ((eL eI) r19.2)), none, none] _ _ _ _ _
              refine bj_pass ?_
              exact bj_nx (a := ()) (.s (.s (.d (.s (.d (.d (.d (.d (.d .nil)))))))))
      ·
        exact bj_nx (a := ()) (.s (.s (.d (.s (.d (.d (.d (.d (.d .nil)))))))))
    ·
      change BJ K _ [some (.dat ((eL eS) a.1)), some (.dat ((eT (eP2 (eT eS) eS)) a.2.1)), none, some (.dat (eI many_1)), none, none, none, none, none] _ _ _ _ _
      refine fun g σ H D hA hm => ?_
      refine x_forR1 ?_
      refine ev_int _ _ _ _ _ hA fun v H hA => ?_
      refine f_rng1 (b := (2 : Int)) hA hm fun hm => f_for (e := eI) (fun (s26 : Unit) => [some (.dat ((eL eS) a.1)), some (.dat ((eT (eP2 (eT eS) eS)) a.2.1)), none, some (.dat (eI many_1)), none, none, none, none, none]) (s0 := ()) (.s (.s (.d (.s (.d (.d (.d (.d (.d .nil))))))))) hm (hb_of (e := eI) (js := [5]) (ps := fun b27 => [eI b27]) (fun b => tj_name) (hjl (n := 9) (fun s => rfl) (by decide)) (fun s26 b27 => ?_)) (fun s26 => ?_)
      ·
        change BJ K _ [some (.dat ((eL eS) a.1)), some (.dat ((eT (eP2 (eT eS) eS)) a.2.1)), none, some (.dat (eI many_1)), none, some (.dat (eI b27)), none, none, none] _ _ _ _ _
        refine fun g σ H D hA hm => x_ifS ?_
        refine x_test ?_
        refine x_op ?_
        refine x_call4 ?_
        refine (ev_var rfl) _ _ _ _ _ hA fun v H hA => ?_
        refine x_cb1 ?_
        refine x_lcL ?_
        refine (ev_slice (ev_var rfl) evo_none (evo_some ev_int) (o1_cutLT (xs := a.1) (e := eS) .dat)) _ _ _ _ _ hA fun v H hA => ?_
        replace hA := hA.frz
        refine wk_list (xs := (cutL a.1 none (some (9 : Int)))) (e := eS) hA (f_lcW (e := eS) (enc := (eP2 (eT eI) eS)) (js := [8]) (ps := fun b28 => [eS b28]) (fun (s29 : Unit) => [some (.dat ((eL eS) a.1)), some (.dat ((eT (eP2 (eT eS) eS)) a.2.1)), none, some (.dat (eI many_1)), none, some (.dat (eI b27)), none, none, none]) (()) (fun b => tj_name) (by decide) (hnl fun s => rfl) (hnl fun s => rfl) (by decide) (lj_fwd fun s29 b28 g σ τ H Q Qn hA hm => ?_) hm (fun r30 v H hA hm => ?_))
        ·
          replace hA : At K g [some (.dat ((eL eS) a.1)), some (.dat ((eT (eP2 (eT eS) eS)) a.2.1)), none, some (.dat (eI many_1)), none, some (.dat (eI b27)), none, none, some (.dat (eS b28))] _ _ _ := hA
          refine x_yes ?_
          refine (ev_tup [(eT eI) ([] : List Int), eS b28] (ea_cons (ev_tup [] ea_nil) (ea_cons (ev_var rfl) ea_nil))) _ _ _ _ _ hA fun v H hA => ?_
          exact hm v H hA
        ·
          replace hA : At K g [some (.dat ((eL eS) a.1)), some (.dat ((eT (eP2 (eT eS) eS)) a.2.1)), none, some (.dat (eI many_1)), none, some (.dat (eI b27)), none, none, none] _ _ _ := hA
          refine o1_tuple (.l .own) _ _ _ _ _ _ hA fun v H hA => ?_
          replace hA := hA.box (Bx.hd (x := r30.2) (bx_t (bx_p2 (bx_t bx_i) bx_s)))
          refine ev_non _ _ _ _ _ hA fun v H hA => ?_
          replace hA := hA.box (Bx.hd (x := ()) bx_n)
          refine ev_non _ _ _ _ _ hA fun v H hA => ?_
          replace hA := hA.box (Bx.hd (x := ()) bx_n)
          refine f_call [.d (eI b27), .d (eD ((dT (dP2 (dT PyData.int) PyData.str)) r30.2)), .d (eD (dN ())), .d (eD (dN ()))] (b27, ((dT (dP2 (dT PyData.int) PyData.str)) r30.2), (dN ()), (dN ())) (fun r => []) hA rfl rfl True.intro (fun as h => match as, h with | [], _ => rfl) (fun _ => rfl) (fun r as h => match as, h with | [], _ => rfl) (fun r j z => nomatch z) .nil (hm.bindR.imp (fun r31 hm v H hA => ?_) fun _ q => q)
          refine (ev_tup [eS ("many" : Str), eI (8 : Int)] (ea_cons ev_str (ea_cons ev_int ea_nil))) _ _ _ _ _ hA fun v H hA => ?_
          refine f_o2m (o2_neDM (a := r31) (b := ((dP2 PyData.str PyData.int) (("many" : Str), (8 : Int)))) dpt_d (.dat (bx_p2 bx_s bx_i))) hA hm fun t32 v H hA hm => ?_
          refine f_tst (P := fun c H1 => _) hA fun hA => ?_
          refine f_ifS hm (fun hm => ?_) (fun hm => ?_)
          ·
            refine bj_go hA hm ?_
            change BJ K _ [some (.dat ((eL eS) a.1)), some (.dat ((eT (eP2 (eT eS) eS)) a.2.1)), none, some (.dat (eI many_1)), none, some (.dat (eI b27)), none, none, none] _ _ _ _ _
            refine bj_assoc ?_
            refine fun g σ H D hA hm => x_ret ?_
            refine ev_bl _ _ _ _ _ hA fun v H hA => ?_
            exact hm v H _ (hA.weak1 (.d (.d (.d .nil))) fun j z => nomatch z)
          ·
            refine bj_go hA hm ?_
            change BJ K _ [some (.dat ((eL eS) a.1)), some (.dat ((eT (eP2 (eT eS) eS)) a.2.1)), none, some (.dat (eI many_1)), none, some (.dat (eI b27)), none, none, none] _ _ _ _ _
            refine bj_pass ?_
            refine fun g σ H D hA hm => x_ifS ?_
            refine x_test ?_
            refine x_op ?_
            refine x_call4 ?_
            refine (ev_var rfl) _ _ _ _ _ hA fun v H hA => ?_
            refine x_op ?_
            refine (ev_var rfl) _ _ _ _ _ hA fun v H hA => ?_
            refine x_tup ?_
            refine x_cons ?_
            refine x_op ?_
            refine (ev_var rfl) _ _ _ _ _ hA fun v H hA => ?_
            refine ev_int _ _ _ _ _ hA fun v H hA => ?_
            refine f_o2m (o2_idxT (xs := a.2.1) (e := (eP2 (eT eS) eS))) hA hm fun t33 v H hA hm => ?_
            refine x_nil ?_
            refine f_tup (vs := [_]) [(eP2 (eT eS) eS) t33] hA rfl (Nat.le_of_ble_eq_true rfl) fun v H hA => ?_
            refine f_o2m (o2_catT (xs := a.2.1) (ys := [t33]) (e := (eP2 (eT eS) eS))) hA hm fun t34 v H hA hm => ?_
            replace hA := hA.box (Bx.hd (x := t34) (bx_t (bx_p2 (bx_t bx_s) bx_s)))
            refine ev_non _ _ _ _ _ hA fun v H hA => ?_
            replace hA := hA.box (Bx.hd (x := ()) bx_n)
            refine ev_non _ _ _ _ _ hA fun v H hA => ?_
            replace hA := hA.box (Bx.hd (x := ()) bx_n)
            refine f_call [.d (eI b27), .d (eD ((dT (dP2 (dT PyData.str) PyData.str)) t34)), .d (eD (dN ())), .d (eD (dN ()))] (b27, ((dT (dP2 (dT PyData.str) PyData.str)) t34), (dN ()), (dN ())) (fun r => []) hA rfl rfl True.intro (fun as h => match as, h with | [], _ => rfl) (fun _ => rfl) (fun r as h => match as, h with | [], _ => rfl) (fun r j z => nomatch z) .nil (hm.bindR.imp (fun r35 hm v H hA => ?_) fun _ q => q)
            refine x_op ?_
            refine (ev_lst [(eP2 eS eI) (("frame" : Str), many_1), (eP2 eS eI) (("many" : Str), (8 : Int))] (ea_cons (ev_tup [eS ("frame" : Str), eI many_1] (ea_cons ev_str (ea_cons (ev_var rfl) ea_nil))) (ea_cons (ev_tup [eS ("many" : Str), eI (8 : Int)] (ea_cons ev_str (ea_cons ev_int ea_nil))) ea_nil))) _ _ _ _ _ hA fun v H hA => ?_
            refine (ev_cb1 (ev_op (ev_var rfl) ev_int o2_eqI) o1_intB) _ _ _ _ _ hA fun v H hA => ?_
            refine f_o2m (o2_idxL (xs := [(("frame" : Str), many_1), (("many" : Str), (8 : Int))]) (e := (eP2 eS eI)) .own) hA hm fun t36 v H hA hm => ?_
            refine f_o2m (o2_neDM (a := r35) (b := ((dP2 PyData.str PyData.int) t36)) dpt_d (.dat (bx_p2 bx_s bx_i))) hA hm fun t37 v H hA hm => ?_
            refine f_tst (P := fun c H1 => _) hA fun hA => ?_
            refine f_ifS hm (fun hm => ?_) (fun hm => ?_)
            ·
              refine bj_go hA hm ?_
              change BJ K _ [some (.dat ((eL eS) a.1)), some (.dat ((eT (eP2 (eT eS) eS)) a.2.1)), none, some (.dat (eI many_1)), none, some (.dat (eI b27)), none, none, none] _ _ _ _ _
              refine bj_assoc ?_
              refine fun g σ H D hA hm => x_ret ?_
              refine ev_bl _ _ _ _ _ hA fun v H hA => ?_
              exact hm v H _ (hA.weak1 (.d (.d (.d .nil))) fun j z => nomatch z)
            ·
              refine bj_go hA hm ?_
              change BJ K _ [some (.dat ((eL eS) a.1)), some (.dat ((eT (eP2 (eT eS) eS)) a.2.1)), none, some (.dat (eI many_1)), none, some (.dat (eI b27)), none, none, none] _ _ _ _ _
              refine bj_pass ?_
              refine fun g σ H D hA hm => x_ifS ?_
              refine x_test ?_
              refine x_op ?_
              refine x_call4 ?_
              refine (ev_var rfl) _ _ _ _ _ hA fun v H hA => ?_
              refine x_tup ?_
              refine x_cons ?_
              refine x_tup ?_
              refine x_cons ?_
              refine (ev_tup [] ea_nil) _ _ _ _ _ hA fun v H hA => ?_
              refine x_cons ?_
              refine x_op ?_
              refine (ev_var rfl) _ _ _ _ _ hA fun v H hA => ?_
              refine ev_int _ _ _ _ _ hA fun v H hA => ?_
              refine f_o2m (o2_idxL (xs := a.1) (e := eS) .dat) hA hm fun t38 v H hA hm => ?_
              refine x_nil ?_
              refine f_tup (vs := [_, _]) [(eT eI) ([] : List Int), eS t38] hA rfl (Nat.le_of_ble_eq_true rfl) fun v H hA => ?_
              refine x_cons ?_
              refine x_tup ?_
              refine x_cons ?_
              refine x_tup ?_
              refine x_cons ?_
              refine x_op ?_
              refine (ev_var rfl) _ _ _ _ _ hA fun v H hA => ?_
              refine ev_int _ _ _ _ _ hA fun v H hA => ?_
              refine f_o2m (o2_idxL (xs := a.1) (e := eS) .dat) hA hm fun t39 v H hA hm => ?_
              refine x_cons ?_
              refine x_op ?_
              refine (ev_var rfl) _ _ _ _ _ hA fun v H hA => ?_
              refine ev_int _ _ _ _ _ hA fun v H hA => ?_
              refine f_o2m (o2_idxL (xs := a.1) (e := eS) .dat) hA hm fun t40 v H hA hm => ?_
              refine x_nil ?_
              refine f_tup (vs := [_, _]) [eS t39, eS t40] hA rfl (Nat.le_of_ble_eq_true rfl) fun v H hA => ?_
              refine x_cons ?_
              refine x_op ?_
              refine (ev_var rfl) _ _ _ _ _ hA fun v H hA => ?_
              refine ev_int _ _ _ _ _ hA fun v H hA => ?_
              refine f_o2m (o2_idxL (xs := a.1) (e := eS) .dat) hA hm fun t41 v H hA hm => ?_
              refine x_nil ?_
              refine f_tup (vs := [_, _]) [(eP2 eS eS) (t39, t40), eS t41] hA rfl (Nat.le_of_ble_eq_true rfl) fun v H hA => ?_
              refine x_nil ?_
              refine f_tup (vs := [_, _]) [(eP2 (eT eI) eS) (([] : List Int), t38), (eP2 (eP2 eS eS) eS) ((t39, t40), t41)] hA rfl (Nat.le_of_ble_eq_true rfl) fun v H hA => ?_
              replace hA := hA.box (Bx.hd (x := ((([] : List Int), t38), ((t39, t40), t41))) (bx_p2 (bx_p2 (bx_t bx_i) bx_s) (bx_p2 (bx_p2 bx_s bx_s) bx_s)))
              refine ev_non _ _ _ _ _ hA fun v H hA => ?_
              replace hA := hA.box (Bx.hd (x := ()) bx_n)
              refine ev_non _ _ _ _ _ hA fun v H hA => ?_
              replace hA := hA.box (Bx.hd (x := ()) bx_n)
              refine f_call [.d (eI b27), .d (eD ((dP2 (dP2 (dT PyData.int) PyData.str) (dP2 (dP2 PyData.str PyData.str) PyData.str)) ((([] : List Int), t38), ((t39, t40), t41)))), .d (eD (dN ())), .d (eD (dN ()))] (b27, ((dP2 (dP2 (dT PyData.int) PyData.str) (dP2 (dP2 PyData.str PyData.str) PyData.str)) ((([] : List Int), t38), ((t39, t40), t41))), (dN ()), (dN ())) (fun r => []) hA rfl rfl True.intro (fun as h => match as, h with | [], _ => rfl) (fun _ => rfl) (fun r as h => match as, h with | [], _ => rfl) (fun r j z => nomatch z) .nil (hm.bindR.imp (fun r42 hm v H hA => ?_) fun _ q => q)
              refine (ev_tup [eS ("frame" : Str), eI (1 : Int)] (ea_cons ev_str (ea_cons ev_int ea_nil))) _ _ _ _ _ hA fun v H hA => ?_
              refine f_o2m (o2_neDM (a := r42) (b := ((dP2 PyData.str PyData.int) (("frame" : Str), (1 : Int)))) dpt_d (.dat (bx_p2 bx_s bx_i))) hA hm fun t43 v H hA hm => ?_
              refine f_tst (P := fun c H1 => _) hA fun hA => ?_
              refine f_ifS hm (fun hm => ?_) (fun hm => ?_)
              ·
                refine bj_go hA hm ?_
                change BJ K _ [some (.dat ((eL eS) a.1)), some (.dat ((eT (eP2 (eT eS) eS)) a.2.1)), none, some (.dat (eI many_1)), none, some (.dat (eI b27)), none, none, none] _ _ _ _ _
                refine bj_assoc ?_
                refine fun g σ H D hA hm => x_ret ?_
                refine ev_bl _ _ _ _ _ hA fun v H hA => ?_
                exact hm v H _ (hA.weak1 (.d (.d (.d .nil))) fun j z => nomatch z)
              ·
                refine bj_go hA hm ?_
                change BJ K _ [some (.dat ((eL eS) a.1)), some (.dat ((eT (eP2 (eT eS) eS)) a.2.1)), none, some (.dat (eI many_1)), none, some (.dat (eI b27)), none, none, none] _ _ _ _ _
                refine bj_pass ?_
                exact bj_nx (a := ()) (.s (.s (.d (.s (.d (.d (.d (.d (.d .nil)))))))))
      ·
        change BJ K _ [some (.dat ((eL eS) a.1)), some (.dat ((eT (eP2 (eT eS) eS)) a.2.1)), none, some (.dat (eI many_1)), none, none, none, none, none] _ _ _ _ _
        refine fun g σ H D hA hm => x_ret ?_
        refine ev_bl _ _ _ _ _ hA fun v H hA => ?_
        exact hm v H _ (hA.weak1 (.d (.d (.d .nil))) fun j z => nomatch z)
theorem ok_law (T : Txt K mg Z) : FnOk P w K mg base (L2.CX P w) 10 Z.f_law Z.d_law ["script"] (Spec K Z.ec 1 pre_law f_law post_law ret_law) := by
  refine fn_ok T.d_law.F sc_law rfl m_law fun cdv A outer s H E hr => ?_
  refine ⟨_, (pss_cons (ps_set (i := 1) sc_law.nd rfl (Or.inl rfl) (pe_callS (ok_law_numbers (K := K) T) (hr.mono (by decide)) (by rfl) T.d_law_numbers.g T.d_law_numbers.F.kp T.d_law_numbers.b (fun σ => passAt (takes_of rfl rfl rfl rfl) σ) (pa_cons (pv 0) pa_nil)))
  (pss_cons (ps_set (i := 2) sc_law.nd rfl (Or.inl rfl) (pe_callS (ok_law_pool (K := K) T) (hr.mono (by decide)) (by rfl) T.d_law_pool.g T.d_law_pool.F.kp T.d_law_pool.b (fun σ => passAt (takes_of rfl rfl rfl rfl) σ) (pa_cons (pv 1) (pa_cons pe_int pa_nil))))
  (pss_cons (ps_set (i := 3) sc_law.nd rfl (Or.inl rfl) (pe_op op_add pe_int (pe_callS (ok_law_draw (K := K) T) (hr.mono (by decide)) (by rfl) T.d_law_draw.g T.d_law_draw.F.kp T.d_law_draw.b (fun σ => passAt (takes_of rfl rfl rfl rfl) σ) (pa_cons (pv 1) (pa_cons pe_int pa_nil)))))
  (pss_cons (ps_if (pt_cmpR op_eq (pe_callS (ok_law_draw (K := K) T) (hr.mono (by decide)) (by rfl) T.d_law_draw.g T.d_law_draw.F.kp T.d_law_draw.b (fun σ => passAt (takes_of rfl rfl rfl rfl) σ) (pa_cons (pv 1) (pa_cons pe_int pa_nil))) pe_int (nomark _)) (pss_cons (ps_set (i := 3) sc_law.nd rfl (Or.inl rfl) pe_int)
  pss_nil) pss_nil)
  (pss_cons (ps_set (i := 4) sc_law.nd rfl (Or.inl rfl) (pe_callS (ok_law_frame (K := K) T) (hr.mono (by decide)) (by rfl) T.d_law_frame.g T.d_law_frame.F.kp T.d_law_frame.b (fun σ => passAt (takes_of rfl rfl rfl rfl) σ) (pa_cons (pv 1) (pa_cons (pv 2) (pa_cons (pv 3) pa_nil)))))
  (pss_cons (ps_set (i := 5) sc_law.nd rfl (Or.inl rfl) (pe_callS (ok_law_order (K := K) T) (hr.mono (by decide)) (by rfl) T.d_law_order.g T.d_law_order.F.kp T.d_law_order.b (fun σ => passAt (takes_of rfl rfl rfl rfl) σ) (pa_cons (pv 1) (pa_cons (pv 3) pa_nil))))
  (pss_cons (ps_set (i := 6) sc_law.nd rfl (Or.inl rfl) (pe_callS (ok_law_led (K := K) T) (hr.mono (by decide)) (by rfl) T.d_law_led.g T.d_law_led.F.kp T.d_law_led.b (fun σ => passAt (takes_of rfl rfl rfl rfl) σ) (pa_cons (pv 1) (pa_cons (pv 4) (pa_cons (pv 5) pa_nil)))))
  (pss_cons (ps_set (i := 7) sc_law.nd rfl (Or.inl rfl) (pe_callS (ok_law_order (K := K) T) (hr.mono (by decide)) (by rfl) T.d_law_order.g T.d_law_order.F.kp T.d_law_order.b (fun σ => passAt (takes_of rfl rfl rfl rfl) σ) (pa_cons (pv 1) (pa_cons (pv 3) pa_nil))))
  (pss_cons (ps_set (i := 8) sc_law.nd rfl (Or.inl rfl) (pe_callTy (r := rList K) c_list (by rfl) T.z_list (by decide +kernel) (pa_cons (pv 5) pa_nil)))
  (pss_cons (ps_expr (pe_bm0 PySem.F.plainAttrs_list PySem.F.slot_list_reverse PySem.F.type_list_reverse mt_reverse (pv 8)))
  (pss_cons (ps_for (passes_of rfl) rfl (pi_list (pe_lst (pa_cons (pv 6) (pa_cons (pv 7) (pa_cons (pv 8) (pa_cons (pe_callTy (r := rList K) c_list (by rfl) T.z_list (by decide +kernel) (pa_cons (pv 5) pa_nil)) pa_nil)))))) (pg_name (i := 9) sc_law.nd rfl (Or.inl rfl)) (pss_cons (ps_if (pw_or (pt_not (pt_val (pe_callS (ok_law_swaps_right (K := K) T) (hr.mono (by decide)) (by rfl) T.d_law_swaps_right.g T.d_law_swaps_right.F.kp T.d_law_swaps_right.b (fun σ => passAt (takes_of rfl rfl rfl rfl) σ) (pa_cons (pv 4) (pa_cons (pv 5) (pa_cons (pv 9) pa_nil)))))) (pw_or1 (pt_not (pt_val (pe_callS (ok_law_swaps_right (K := K) T) (hr.mono (by decide)) (by rfl) T.d_law_swaps_right.g T.d_law_swaps_right.F.kp T.d_law_swaps_right.b (fun σ => passAt (takes_of rfl rfl rfl rfl) σ) (pa_cons (pv 4) (pa_cons (pv 9) (pa_cons (pv 5) pa_nil)))))))).pt (pss_cons (ps_ret pe_bl)
  pss_nil) pss_nil)
  (pss_cons (ps_set (i := 10) sc_law.nd rfl (Or.inl rfl) (pe_callS (ok_directions (K := K) T) (hr.mono (by decide)) (by rfl) T.d_directions.g T.d_directions.F.kp T.d_directions.b (fun σ => passAt (takes_of rfl rfl rfl rfl) σ) (pa_cons (pv 4) (pa_cons (pv 5) pa_nil))))
  (pss_cons (ps_set (i := 11) sc_law.nd rfl (Or.inl rfl) (pe_callS (ok_directions (K := K) T) (hr.mono (by decide)) (by rfl) T.d_directions.g T.d_directions.F.kp T.d_directions.b (fun σ => passAt (takes_of rfl rfl rfl rfl) σ) (pa_cons (pv 4) (pa_cons (pe_callTy (r := rTuple K) c_tuple (by rfl) T.z_tuple (by decide +kernel) (pa_cons (pv 9) pa_nil)) pa_nil))))
  (pss_cons (ps_if (pw_or (pt_not (pt_val (pe_callB (r := rIsi K) call_isi (by rfl) T.z_isinstance (by decide +kernel) (pa_cons (pv 10) (pa_cons (pe_bltn (v := .ty "tuple") (u := .type "tuple") (by rfl) T.z_tuple (by decide +kernel) rfl) pa_nil))))) (pw_or1 (pt_cmpR (r := rNeD K) (op_neD hr.units) (pv 10) (pe_callS (ok_law_directions (K := K) T) (hr.mono (by decide)) (by rfl) T.d_law_directions.g T.d_law_directions.F.kp T.d_law_directions.b (fun σ => passAt (takes_of rfl rfl rfl rfl) σ) (pa_cons (pv 4) (pa_cons (pv 5) pa_nil))) (nomark _)))).pt (pss_cons (ps_ret pe_bl)
  pss_nil) pss_nil)
  (pss_cons (ps_if (pw_or (pt_cmpR (r := rNeD K) (op_neD hr.units) (pv 11) (pe_callS (ok_law_directions (K := K) T) (hr.mono (by decide)) (by rfl) T.d_law_directions.g T.d_law_directions.F.kp T.d_law_directions.b (fun σ => passAt (takes_of rfl rfl rfl rfl) σ) (pa_cons (pv 4) (pa_cons (pv 9) pa_nil))) (nomark _)) (pw_or1 (pt_cmpR op_ne (pe_cmpR (r := rEqD K) (op_eqD hr.units) (pv 10) (pv 11) (nomark _)) (pe_callS (ok_same_for_all (K := K) T) (hr.mono (by decide)) (by rfl) T.d_same_for_all.g T.d_same_for_all.F.kp T.d_same_for_all.b (fun σ => passAt (takes_of rfl rfl rfl rfl) σ) (pa_cons (pv 4) (pa_cons (pv 5) (pa_cons (pv 9) pa_nil)))) (nomark _)))).pt (pss_cons (ps_ret pe_bl)
  pss_nil) pss_nil)
  pss_nil))))))
  (pss_cons (ps_if (pw_or (pt_cmpR (r := rNeD K) (op_neD hr.units) (pe_callS (ok_directions (K := K) T) (hr.mono (by decide)) (by rfl) T.d_directions.g T.d_directions.F.kp T.d_directions.b (fun σ => passAt (takes_of rfl rfl rfl rfl) σ) (pa_cons (pe_tup pa_nil) (pa_cons (pe_tup pa_nil) pa_nil))) (pe_tup pa_nil) (nomark _)) (pw_or (pt_cmpR (r := rNeD K) (op_neD hr.units) (pe_callS (ok_swaps (K := K) T) (hr.mono (by decide)) (by rfl) T.d_swaps.g T.d_swaps.F.kp T.d_swaps.b (fun σ => passAt (takes_of rfl rfl rfl rfl) σ) (pa_cons (pe_tup pa_nil) (pa_cons (pe_tup pa_nil) (pa_cons (pe_lst pa_nil) pa_nil)))) (pe_tup pa_nil) (nomark _)) (pw_or1 (pt_cmpR p_notB (pe_callS (ok_same_for_all (K := K) T) (hr.mono (by decide)) (by rfl) T.d_same_for_all.g T.d_same_for_all.F.kp T.d_same_for_all.b (fun σ => passAt (takes_of rfl rfl rfl rfl) σ) (pa_cons (pe_lst pa_nil) (pa_cons (pe_lst pa_nil) (pa_cons (pe_tup pa_nil) pa_nil)))) pe_bl (nomark _))))).pt (pss_cons (ps_ret pe_bl)
  pss_nil) pss_nil)
  (pss_cons (ps_if (pw_or (pt_cmpR p_isN (pe_callS (ok_swaps (K := K) T) (hr.mono (by decide)) (by rfl) T.d_swaps.g T.d_swaps.F.kp T.d_swaps.b (fun σ => passAt (takes_of rfl rfl rfl rfl) σ) (pa_cons (pv 4) (pa_cons (pv 5) (pa_cons (pv 6) pa_nil)))) pe_non (nomark _)) (pw_or1 (pt_cmpR op_ne (pe_callB (r := Gv.rLen K) c_len (by rfl) T.z_len (by decide +kernel) (pa_cons (pe_callS (ok_law_unlike (K := K) T) (hr.mono (by decide)) (by rfl) T.d_law_unlike.g T.d_law_unlike.F.kp T.d_law_unlike.b (fun σ => passAt (takes_of rfl rfl rfl rfl) σ) (pa_cons (pv 5) (pa_cons (pv 8) pa_nil))) pa_nil)) (pe_op op_fdiv (pe_op op_mul (pv 3) (pe_op op_sub (pv 3) pe_int)) pe_int) (nomark _)))).pt (pss_cons (ps_ret pe_bl)
  pss_nil) pss_nil)
  (pss_cons (ps_ret (pe_callS (ok_law_refused (K := K) T) (hr.mono (by decide)) (by rfl) T.d_law_refused.g T.d_law_refused.F.kp T.d_law_refused.b (fun σ => passAt (takes_of rfl rfl rfl rfl) σ) (pa_cons (pv 2) (pa_cons (pv 4) (pa_cons (pv 5) pa_nil)))))
  pss_nil)))))))))))))), ?_⟩
  intro a as _
  change BJ K _ [some (.dat ((eL eI) a)), none, none, none, none, none, none, none, none, none, none, none] _ _ _ _ _
  refine fun g σ H D hA hm => x_asg ?_
  refine x_call1 ?_
  refine (ev_var rfl) _ _ _ _ _ hA fun v H hA => ?_
  refine f_call [.d ((eL eI) a)] a (fun r => []) hA rfl rfl True.intro (fun as h => match as, h with | [], _ => rfl) (fun _ => rfl) (fun r as h => match as, h with | [], _ => rfl) (fun r j z => nomatch z) .nil (hm.bindR.imp (fun r1 hm v H hA => ?_) fun _ q => q)
  refine f_setgo hA (fun j z => nomatch z) rfl hm ?_
  change BJ K _ [some (.dat ((eL eI) a)), some (.own none (.lst (List.map eI r1))), none, none, none, none, none, none, none, none, none, none] _ _ _ _ _
  refine fun g σ H D hA hm => x_asg ?_
  refine x_call2 ?_
  refine (ev_own rfl) _ _ _ _ _ hA fun v H hA => ?_
  refine ev_int _ _ _ _ _ hA fun v H hA => ?_
  refine f_call [.o 1 none (.lst (List.map eI r1)), .d (eI (9 : Int))] (r1, (9 : Int)) (fun r => [.lst (List.map eI r.2)]) hA rfl rfl ⟨rfl, True.intro⟩ (fun as h => match as, h with | [_], _ => rfl) (fun _ => rfl) (fun r as h => match as, h with | [_], _ => rfl) (fun r j z => nomatch z) .nil (hm.bindR.imp (fun r2 hm v H hA => ?_) fun _ q => q)
  replace hA : At K g [some (.dat ((eL eI) a)), some (.own none (.lst (List.map eI r2.2))), none, none, none, none, none, none, none, none, none, none] _ _ _ := hA
  refine f_setgo hA (fun j z => nomatch z) rfl hm ?_
  change BJ K _ [some (.dat ((eL eI) a)), some (.own none (.lst (List.map eI r2.2))), some (.dat ((eL eS) r2.1)), none, none, none, none, none, none, none, none, none] _ _ _ _ _
  refine fun g σ H D hA hm => x_asg ?_
  refine x_op ?_
  refine ev_int _ _ _ _ _ hA fun v H hA => ?_
  refine x_call2 ?_
  refine (ev_own rfl) _ _ _ _ _ hA fun v H hA => ?_
  refine ev_int _ _ _ _ _ hA fun v H hA => ?_
  refine f_call [.o 1 none (.lst (List.map eI r2.2)), .d (eI (6 : Int))] (r2.2, (6 : Int)) (fun r => [.lst (List.map eI r.2)]) hA rfl rfl ⟨rfl, True.intro⟩ (fun as h => match as, h with | [_], _ => rfl) (fun _ => rfl) (fun r as h => match as, h with | [_], _ => rfl) (fun r j z => nomatch z) .nil (hm.bindR.imp (fun r3 hm v H hA => ?_) fun _ q => q)
  replace hA : At K g [some (.dat ((eL eI) a)), some (.own none (.lst (List.map eI r3.2))), some (.dat ((eL eS) r2.1)), none, none, none, none, none, none, none, none, none] _ _ _ := hA
  refine o2_i0 _ _ _ _ _ _ _ hA fun v H hA => ?_
  refine f_setlt (e := ((1 : Int) + r3.1)) (fun t => .dat (eI t)) hA (fun t j z => nomatch z) rfl hm (fun many_4 => ?_)
  change BJ K _ [some (.dat ((eL eI) a)), some (.own none (.lst (List.map eI r3.2))), some (.dat ((eL eS) r2.1)), some (.dat (eI many_4)), none, none, none, none, none, none, none, none] _ _ _ _ _
  refine bj_seq (n1 := fun (s5 : ((List Int) × Int)) => [none, some (.own none (.lst (List.map eI s5.1))), some (.dat ((eL eS) r2.1)), some (.dat (eI s5.2)), none, none, none, none, none, none, none, none]) ?_ (fun s5 => ?_)
  ·
    refine fun g σ H D hA hm => x_ifB ?_
    refine x_test ?_
    refine x_op ?_
    refine x_call2 ?_
    refine (ev_own rfl) _ _ _ _ _ hA fun v H hA => ?_
    refine ev_int _ _ _ _ _ hA fun v H hA => ?_
    refine f_call [.o 1 none (.lst (List.map eI r3.2)), .d (eI (6 : Int))] (r3.2, (6 : Int)) (fun r => [.lst (List.map eI r.2)]) hA rfl rfl ⟨rfl, True.intro⟩ (fun as h => match as, h with | [_], _ => rfl) (fun _ => rfl) (fun r as h => match as, h with | [_], _ => rfl) (fun r j z => nomatch z) .nil (hm.bindR.imp (fun r6 hm v H hA => ?_) fun _ q => q)
    replace hA : At K g [some (.dat ((eL eI) a)), some (.own none (.lst (List.map eI r6.2))), some (.dat ((eL eS) r2.1)), some (.dat (eI many_4)), none, none, none, none, none, none, none, none] _ _ _ := hA
    refine ev_int _ _ _ _ _ hA fun v H hA => ?_
    refine o2_eqI _ _ _ _ _ _ _ hA fun v H hA => ?_
    refine f_tst (P := fun c H1 => _) hA fun hA => ?_
    refine f_pick hm (fun hm => ?_) (fun hm => ?_)
    ·
      refine bj_go hA hm ?_
      change BJ K _ [some (.dat ((eL eI) a)), some (.own none (.lst (List.map eI r6.2))), some (.dat ((eL eS) r2.1)), some (.dat (eI many_4)), none, none, none, none, none, none, none, none] _ _ _ _ _
      refine fun g σ H D hA hm => x_asg ?_
      refine ev_int _ _ _ _ _ hA fun v H hA => ?_
      refine f_setlt (e := (8 : Int)) (fun t => .dat (eI t)) hA (fun t j z => nomatch z) rfl hm (fun many_7 => ?_)
      change BJ K _ [some (.dat ((eL eI) a)), some (.own none (.lst (List.map eI r6.2))), some (.dat ((eL eS) r2.1)), some (.dat (eI many_7)), none, none, none, none, none, none, none, none] _ _ _ _ _
      exact bj_nx (a := (r6.2, many_7)) (.d (.s (.s (.s (.d (.d (.d (.d (.d (.d (.d (.d .nil))))))))))))
    ·
      refine bj_go hA hm ?_
      change BJ K _ [some (.dat ((eL eI) a)), some (.own none (.lst (List.map eI r6.2))), some (.dat ((eL eS) r2.1)), some (.dat (eI many_4)), none, none, none, none, none, none, none, none] _ _ _ _ _
      exact bj_nx (a := (r6.2, many_4)) (.d (.s (.s (.s (.d (.d (.d (.d (.d (.d (.d (.d .nil))))))))))))
  ·
    change BJ K _ [none, some (.own none (.lst (List.map eI s5.1))), some (.dat ((eL eS) r2.1)), some (.dat (eI s5.2)), none, none, none, none, none, none, none, none] _ _ _ _ _
    refine fun g σ H D hA hm => x_asg ?_
    refine x_call3 ?_
    refine (ev_own rfl) _ _ _ _ _ hA fun v H hA => ?_
    refine (ev_var rfl) _ _ _ _ _ hA fun v H hA => ?_
    refine (ev_var rfl) _ _ _ _ _ hA fun v H hA => ?_
    refine f_call [.o 1 none (.lst (List.map eI s5.1)), .d ((eL eS) r2.1), .d (eI s5.2)] (s5.1, r2.1, s5.2) (fun r => [.lst (List.map eI r.2)]) hA rfl rfl ⟨rfl, True.intro⟩ (fun as h => match as, h with | [_], _ => rfl) (fun _ => rfl) (fun r as h => match as, h with | [_], _ => rfl) (fun r j z => nomatch z) .nil (hm.bindR.imp (fun r8 hm v H hA => ?_) fun _ q => q)
    replace hA : At K g [none, some (.own none (.lst (List.map eI r8.2))), some (.dat ((eL eS) r2.1)), some (.dat (eI s5.2)), none, none, none, none, none, none, none, none] _ _ _ := hA
    refine f_setgo hA (fun j z => nomatch z) rfl hm ?_
    change BJ K _ [none, some (.own none (.lst (List.map eI r8.2))), some (.dat ((eL eS) r2.1)), some (.dat (eI s5.2)), some (.dat ((eT (eP2 (eT eS) eS)) r8.1)), none, none, none, none, none, none, none] _ _ _ _ _
    refine fun g σ H D hA hm => x_asg ?_
    refine x_call2 ?_
    refine (ev_own rfl) _ _ _ _ _ hA fun v H hA => ?_
    refine (ev_var rfl) _ _ _ _ _ hA fun v H hA => ?_
    refine f_call [.o 1 none (.lst (List.map eI r8.2)), .d (eI s5.2)] (r8.2, s5.2) (fun r => [.lst (List.map eI r.2)]) hA rfl rfl ⟨rfl, True.intro⟩ (fun as h => match as, h with | [_], _ => rfl) (fun _ => rfl) (fun r as h => match as, h with | [_], _ => rfl) (fun r j z => nomatch z) .nil (hm.bindR.imp (fun r9 hm v H hA => ?_) fun _ q => q)
    replace hA : At K g [none, some (.own none (.lst (List.map eI r9.2))), some (.dat ((eL eS) r2.1)), some (.dat (eI s5.2)), some (.dat ((eT (eP2 (eT eS) eS)) r8.1)), none, none, none, none, none, none, none] _ _ _ := hA
    refine f_setgo hA (fun j z => nomatch z) rfl hm ?_
    change BJ K _ [none, some (.own none (.lst (List.map eI r9.2))), some (.dat ((eL eS) r2.1)), some (.dat (eI s5.2)), some (.dat ((eT (eP2 (eT eS) eS)) r8.1)), some (.dat ((eL eI) r9.1)), none, none, none, none, none, none] _ _ _ _ _
    refine fun g σ H D hA hm => x_asg ?_
    refine x_call3 ?_
    refine (ev_own rfl) _ _ _ _ _ hA fun v H hA => ?_
    refine (ev_var rfl) _ _ _ _ _ hA fun v H hA => ?_
    refine (ev_var rfl) _ _ _ _ _ hA fun v H hA => ?_
    refine f_call [.o 1 none (.lst (List.map eI r9.2)), .d ((eT (eP2 (eT eS) eS)) r8.1), .d ((eL eI) r9.1)] (r9.2, r8.1, r9.1) (fun r => [.lst (List.map eI r.2)]) hA rfl rfl ⟨rfl, True.intro⟩ (fun as h => match as, h with | [_], _ => rfl) (fun _ => rfl) (fun r as h => match as, h with | [_], _ => rfl) (fun r j z => nomatch z) .nil (hm.bindR.imp (fun r10 hm v H hA => ?_) fun _ q => q)
    replace hA : At K g [none, some (.own none (.lst (List.map eI r10.2))), some (.dat ((eL eS) r2.1)), some (.dat (eI s5.2)), some (.dat ((eT (eP2 (eT eS) eS)) r8.1)), some (.dat ((eL eI) r9.1)), none, none, none, none, none, none] _ _ _ := hA
    refine f_setgo hA (fun j z => nomatch z) rfl hm ?_
    change BJ K _ [none, some (.own none (.lst (List.map eI r10.2))), some (.dat ((eL eS) r2.1)), some (.dat (eI s5.2)), some (.dat ((eT (eP2 (eT eS) eS)) r8.1)), some (.dat ((eL eI) r9.1)), some (.dat ((eL eI) r10.1)), none, none, none, none, none] _ _ _ _ _
    refine fun g σ H D hA hm => x_asg ?_
    refine x_call2 ?_
    refine (ev_own rfl) _ _ _ _ _ hA fun v H hA => ?_
    refine (ev_var rfl) _ _ _ _ _ hA fun v H hA => ?_
    refine f_call [.o 1 none (.lst (List.map eI r10.2)), .d (eI s5.2)] (r10.2, s5.2) (fun r => [.lst (List.map eI r.2)]) hA rfl rfl ⟨rfl, True.intro⟩ (fun as h => match as, h with | [_], _ => rfl) (fun _ => rfl) (fun r as h => match as, h with | [_], _ => rfl) (fun r j z => nomatch z) .nil (hm.bindR.imp (fun r11 hm v H hA => ?_) fun _ q => q)
    replace hA : At K g [none, some (.own none (.lst (List.map eI r11.2))), some (.dat ((eL eS) r2.1)), some (.dat (eI s5.2)), some (.dat ((eT (eP2 (eT eS) eS)) r8.1)), some (.dat ((eL eI) r9.1)), some (.dat ((eL eI) r10.1)), none, none, none, none, none] _ _ _ := hA
    refine f_setgo hA (fun j z => nomatch z) rfl hm ?_
    change BJ K _ [none, some (.own none (.lst (List.map eI r11.2))), some (.dat ((eL eS) r2.1)), some (.dat (eI s5.2)), some (.dat ((eT (eP2 (eT eS) eS)) r8.1)), some (.dat ((eL eI) r9.1)), some (.dat ((eL eI) r10.1)), some (.dat ((eL eI) r11.1)), none, none, none, none] _ _ _ _ _
    refine fun g σ H D hA hm => x_asg ?_
    refine (ev_cb1 (ev_var rfl) (o1_list (.l .dat))) _ _ _ _ _ hA fun v H hA => ?_
    refine f_setgo hA (fun j z => nomatch z) rfl hm ?_
    change BJ K _ [none, some (.own none (.lst (List.map eI r11.2))), some (.dat ((eL eS) r2.1)), some (.dat (eI s5.2)), some (.dat ((eT (eP2 (eT eS) eS)) r8.1)), some (.dat ((eL eI) r9.1)), some (.dat ((eL eI) r10.1)), some (.dat ((eL eI) r11.1)), some (.own none (.lst (List.map eI r9.1))), none, none, none] _ _ _ _ _
    refine bj_rev (xs := r9.1) (e := eI) rfl (fun ys12 => ?_)
    change BJ K _ [none, some (.own none (.lst (List.map eI r11.2))), some (.dat ((eL eS) r2.1)), some (.dat (eI s5.2)), some (.dat ((eT (eP2 (eT eS) eS)) r8.1)), some (.dat ((eL eI) r9.1)), some (.dat ((eL eI) r10.1)), some (.dat ((eL eI) r11.1)), some (.own none (.lst (List.map eI ys12))), none, none, none] _ _ _ _ _
    refine bj_frz (i := 8) rfl ?_
    change BJ K _ [none, some (.own none (.lst (List.map eI r11.2))), some (.dat ((eL eS) r2.1)), some (.dat (eI s5.2)), some (.dat ((eT (eP2 (eT eS) eS)) r8.1)), some (.dat ((eL eI) r9.1)), some (.dat ((eL eI) r10.1)), some (.dat ((eL eI) r11.1)), some (.dat ((eL eI) ys12)), none, none, none] _ _ _ _ _
    refine fun g σ H D hA hm => ?_
    refine x_forL ?_
    refine (ev_lst [(eL eI) r10.1, (eL eI) r11.1, (eL eI) ys12, (eL eI) r9.1] (ea_cons (ev_var rfl) (ea_cons (ev_var rfl) (ea_cons (ev_var rfl) (ea_cons (ev_frz (ev_cb1 (ev_var rfl) (o1_list (.l .dat)))) ea_nil))))) _ _ _ _ _ hA fun v H hA => ?_
    replace hA := hA.frz
    refine wk_list (xs := [r10.1, r11.1, ys12, r9.1]) (e := (eL eI)) hA (f_for (e := (eL eI)) (fun (s13 : Unit) => [none, none, some (.dat ((eL eS) r2.1)), some (.dat (eI s5.2)), some (.dat ((eT (eP2 (eT eS) eS)) r8.1)), some (.dat ((eL eI) r9.1)), some (.dat ((eL eI) r10.1)), none, some (.dat ((eL eI) ys12)), none, none, none]) (s0 := ()) (.d (.d (.s (.s (.s (.s (.s (.d (.s (.d (.d (.d .nil)))))))))))) hm (hb_of (e := (eL eI)) (js := [9]) (ps := fun b14 => [(eL eI) b14]) (fun b => tj_name) (hjl (n := 12) (fun s => rfl) (by decide)) (fun s13 b14 => ?_)) (fun s13 => ?_))
    ·
      change BJ K _ [none, none, some (.dat ((eL eS) r2.1)), some (.dat (eI s5.2)), some (.dat ((eT (eP2 (eT eS) eS)) r8.1)), some (.dat ((eL eI) r9.1)), some (.dat ((eL eI) r10.1)), none, some (.dat ((eL eI) ys12)), some (.dat ((eL eI) b14)), none, none] _ _ _ _ _
      refine fun g σ H D hA hm => x_ifS ?_
      refine f_joinT (fun (s : Bool) => [none, none, some (.dat ((eL eS) r2.1)), some (.dat (eI s5.2)), some (.dat ((eT (eP2 (eT eS) eS)) r8.1)), some (.dat ((eL eI) r9.1)), some (.dat ((eL eI) r10.1)), none, some (.dat ((eL eI) ys12)), some (.dat ((eL eI) b14)), none, none]) (fun s => s) hA hm (fun hm => ?_) (fun j15 H hA hm => ?_)
      ·
        refine x_orT ?_
        refine x_not ?_
        refine x_B ?_
        refine x_call3 ?_
        refine (ev_var rfl) _ _ _ _ _ hA fun v H hA => ?_
        refine (ev_var rfl) _ _ _ _ _ hA fun v H hA => ?_
        refine (ev_var rfl) _ _ _ _ _ hA fun v H hA => ?_
        refine f_call [.d ((eT (eP2 (eT eS) eS)) r8.1), .d ((eL eI) r9.1), .d ((eL eI) b14)] (r8.1, r9.1, b14) (fun r => []) hA rfl rfl True.intro (fun as h => match as, h with | [], _ => rfl) (fun _ => rfl) (fun r as h => match as, h with | [], _ => rfl) (fun r j z => nomatch z) .nil (hm.bindR.imp (fun r16 hm v H hA => ?_) fun _ q => q)
        refine f_tst (P := fun c H1 => _) hA fun hA => ?_
        refine f_pick hm (fun hm => ?_) (fun hm => ?_)
        ·
          exact hm H hA
        ·
          refine x_not ?_
          refine x_B ?_
          refine x_call3 ?_
          refine (ev_var rfl) _ _ _ _ _ hA fun v H hA => ?_
          refine (ev_var rfl) _ _ _ _ _ hA fun v H hA => ?_
          refine (ev_var rfl) _ _ _ _ _ hA fun v H hA => ?_
          refine f_call [.d ((eT (eP2 (eT eS) eS)) r8.1), .d ((eL eI) b14), .d ((eL eI) r9.1)] (r8.1, b14, r9.1) (fun r => []) hA rfl rfl True.intro (fun as h => match as, h with | [], _ => rfl) (fun _ => rfl) (fun r as h => match as, h with | [], _ => rfl) (fun r j z => nomatch z) .nil (hm.bindR.imp (fun r17 hm v H hA => ?_) fun _ q => q)
          refine f_tst (P := fun c H1 => _) hA fun hA => ?_
          exact hm H hA
      ·
        replace hA : At K g [none, none, some (.dat ((eL eS) r2.1)), some (.dat (eI s5.2)), some (.dat ((eT (eP2 (eT eS) eS)) r8.1)), some (.dat ((eL eI) r9.1)), some (.dat ((eL eI) r10.1)), none, some (.dat ((eL eI) ys12)), some (.dat ((eL eI) b14)), none, none] _ _ _ := hA
        refine f_ifS hm (fun hm => ?_) (fun hm => ?_)
        ·
          refine bj_go hA hm ?_
          change BJ K _ [none, none, some (.dat ((eL eS) r2.1)), some (.dat (eI s5.2)), some (.dat ((eT (eP2 (eT eS) eS)) r8.1)), some (.dat ((eL eI) r9.1)), some (.dat ((eL eI) r10.1)), none, some (.dat ((eL eI) ys12)), some (.dat ((eL eI) b14)), none, none] _ _ _ _ _
          refine bj_assoc ?_
          refine fun g σ H D hA hm => x_ret ?_
          refine ev_bl _ _ _ _ _ hA fun v H hA => ?_
          exact hm v H _ (hA.weak1 (.d .nil) fun j z => nomatch z)
        ·
          refine bj_go hA hm ?_
          change BJ K _ [none, none, some (.dat ((eL eS) r2.1)), some (.dat (eI s5.2)), some (.dat ((eT (eP2 (eT eS) eS)) r8.1)), some (.dat ((eL eI) r9.1)), some (.dat ((eL eI) r10.1)), none, some (.dat ((eL eI) ys12)), some (.dat ((eL eI) b14)), none, none] _ _ _ _ _
          refine bj_pass ?_
          refine fun g σ H D hA hm => x_asg ?_
          refine x_call2 ?_
          refine (ev_var rfl) _ _ _ _ _ hA fun v H hA => ?_
          replace hA := hA.box (Bx.hd (x := r8.1) (bx_t (bx_p2 (bx_t bx_s) bx_s)))
          refine (ev_var rfl) _ _ _ _ _ hA fun v H hA => ?_
          replace hA := hA.box (Bx.hd (x := r9.1) (bx_l bx_i))
          refine f_call [.d (eD ((dT (dP2 (dT PyData.str) PyData.str)) r8.1)), .d (eD ((dL PyData.int) r9.1))] (((dT (dP2 (dT PyData.str) PyData.str)) r8.1), ((dL PyData.int) r9.1)) (fun r => []) hA rfl rfl True.intro (fun as h => match as, h with | [], _ => rfl) (fun _ => rfl) (fun r as h => match as, h with | [], _ => rfl) (fun r j z => nomatch z) .nil (hm.bindR.imp (fun r18 hm v H hA => ?_) fun _ q => q)
          refine f_setgo hA (fun j z => nomatch z) rfl hm ?_
          change BJ K _ [none, none, some (.dat ((eL eS) r2.1)), some (.dat (eI s5.2)), some (.dat ((eT (eP2 (eT eS) eS)) r8.1)), some (.dat ((eL eI) r9.1)), some (.dat ((eL eI) r10.1)), none, some (.dat ((eL eI) ys12)), some (.dat ((eL eI) b14)), some (.dat ((eT (eP2 eI eI)) r18)), none] _ _ _ _ _
          refine fun g σ H D hA hm => x_asg ?_
          refine x_call2 ?_
          refine (ev_var rfl) _ _ _ _ _ hA fun v H hA => ?_
          replace hA := hA.box (Bx.hd (x := r8.1) (bx_t (bx_p2 (bx_t bx_s) bx_s)))
          refine (ev_cb1 (ev_var rfl) (o1_tuple (.l .dat))) _ _ _ _ _ hA fun v H hA => ?_
          replace hA := hA.box (Bx.hd (x := b14) (bx_t bx_i))
          refine f_call [.d (eD ((dT (dP2 (dT PyData.str) PyData.str)) r8.1)), .d (eD ((dT PyData.int) b14))] (((dT (dP2 (dT PyData.str) PyData.str)) r8.1), ((dT PyData.int) b14)) (fun r => []) hA rfl rfl True.intro (fun as h => match as, h with | [], _ => rfl) (fun _ => rfl) (fun r as h => match as, h with | [], _ => rfl) (fun r j z => nomatch z) .nil (hm.bindR.imp (fun r19 hm v H hA => ?_) fun _ q => q)
          refine f_setgo hA (fun j z => nomatch z) rfl hm ?_
          change BJ K _ [none, none, some (.dat ((eL eS) r2.1)), some (.dat (eI s5.2)), some (.dat ((eT (eP2 (eT eS) eS)) r8.1)), some (.dat ((eL eI) r9.1)), some (.dat ((eL eI) r10.1)), none, some (.dat ((eL eI) ys12)), some (.dat ((eL eI) b14)), some (.dat ((eT (eP2 eI eI)) r18)), some (.dat ((eT (eP2 eI eI)) r19))] _ _ _ _ _
          refine fun g σ H D hA hm => x_ifS ?_
          refine f_joinT (fun (s : Bool) => [none, none, some (.dat ((eL eS) r2.1)), some (.dat (eI s5.2)), some (.dat ((eT (eP2 (eT eS) eS)) r8.1)), some (.dat ((eL eI) r9.1)), some (.dat ((eL eI) r10.1)), none, some (.dat ((eL eI) ys12)), some (.dat ((eL eI) b14)), some (.dat ((eT (eP2 eI eI)) r18)), some (.dat ((eT (eP2 eI eI)) r19))]) (fun s => s) hA hm (fun hm => ?_) (fun j20 H hA hm => ?_)
          ·
            refine x_orT ?_
            refine (evb_not (evb_B (ev_isi (d := ((dT (dP2 PyData.int PyData.int)) r18)) .tuple (ev_var rfl) (.dat (bx_t (bx_p2 bx_i bx_i)))))) _ _ _ _ _ hA fun H hA => ?_
            refine f_pick hm (fun hm => ?_) (fun hm => ?_)
            ·
              exact hm H hA
            ·
              refine x_test ?_
              refine x_op ?_
              refine (ev_var rfl) _ _ _ _ _ hA fun v H hA => ?_
              refine x_call2 ?_
              refine (ev_var rfl) _ _ _ _ _ hA fun v H hA => ?_
              refine (ev_var rfl) _ _ _ _ _ hA fun v H hA => ?_
              refine f_call [.d ((eT (eP2 (eT eS) eS)) r8.1), .d ((eL eI) r9.1)] (r8.1, r9.1) (fun r => []) hA rfl rfl True.intro (fun as h => match as, h with | [], _ => rfl) (fun _ => rfl) (fun r as h => match as, h with | [], _ => rfl) (fun r j z => nomatch z) .nil (hm.bindR.imp (fun r21 hm v H hA => ?_) fun _ q => q)
              refine (o2_neD (x := (r18 : (List (Int × Int)))) (y := (r21 : (List (Int × Int)))) (.dat (bx_t (bx_p2 bx_i bx_i))) (.dat (bx_t (bx_p2 bx_i bx_i))) (eq_t (eq_p2 eq_i eq_i))) _ _ _ _ _ _ _ hA fun v H hA => ?_
              refine f_tst (P := fun c H1 => _) hA fun hA => ?_
              exact hm H hA
          ·
            replace hA : At K g [none, none, some (.dat ((eL eS) r2.1)), some (.dat (eI s5.2)), some (.dat ((eT (eP2 (eT eS) eS)) r8.1)), some (.dat ((eL eI) r9.1)), some (.dat ((eL eI) r10.1)), none, some (.dat ((eL eI) ys12)), some (.dat ((eL eI) b14)), some (.dat ((eT (eP2 eI eI)) r18)), some (.dat ((eT (eP2 eI eI)) r19))] _ _ _ := hA
            refine f_ifS hm (fun hm => ?_) (fun hm => ?_)
            ·
              refine bj_go hA hm ?_
              change BJ K _ [none, none, some (.dat ((eL eS) r2.1)), some (.dat (eI s5.2)), some (.dat ((eT (eP2 (eT eS) eS)) r8.1)), some (.dat ((eL eI) r9.1)), some (.dat ((eL eI) r10.1)), none, some (.dat ((eL eI) ys12)), some (.dat ((eL eI) b14)), some (.dat ((eT (eP2 eI eI)) r18)), some (.dat ((eT (eP2 eI eI)) r19))] _ _ _ _ _
              refine bj_assoc ?_
              refine fun g σ H D hA hm => x_ret ?_
              refine ev_bl _ _ _ _ _ hA fun v H hA => ?_
              exact hm v H _ (hA.weak1 (.d .nil) fun j z => nomatch z)
            ·
              refine bj_go hA hm ?_
              change BJ K _ [none, none, some (.dat ((eL eS) r2.1)), some (.dat (eI s5.2)), some (.dat ((eT (eP2 (eT eS) eS)) r8.1)), some (.dat ((eL eI) r9.1)), some (.dat ((eL eI) r10.1)), none, some (.dat ((eL eI) ys12)), some (.dat ((eL eI) b14)), some (.dat ((eT (eP2 eI eI)) r18)), some (.dat ((eT (eP2 eI eI)) r19))] _ _ _ _ _
              refine bj_pass ?_
              refine fun g σ H D hA hm => x_ifS ?_
              refine f_joinT (fun (s : Bool) => [none, none, some (.dat ((eL eS) r2.1)), some (.dat (eI s5.2)), some (.dat ((eT (eP2 (eT eS) eS)) r8.1)), some (.dat ((eL eI) r9.1)), some (.dat ((eL eI) r10.1)), none, some (.dat ((eL eI) ys12)), some (.dat ((eL eI) b14)), some (.dat ((eT (eP2 eI eI)) r18)), some (.dat ((eT (eP2 eI eI)) r19))]) (fun s => s) hA hm (fun hm => ?_) (fun j22 H hA hm => ?_)
              ·
                refine x_orT ?_
                refine x_test ?_
                refine x_op ?_
                refine (ev_var rfl) _ _ _ _ _ hA fun v H hA => ?_
                refine x_call2 ?_
                refine (ev_var rfl) _ _ _ _ _ hA fun v H hA => ?_
                refine (ev_var rfl) _ _ _ _ _ hA fun v H hA => ?_
                refine f_call [.d ((eT (eP2 (eT eS) eS)) r8.1), .d ((eL eI) b14)] (r8.1, b14) (fun r => []) hA rfl rfl True.intro (fun as h => match as, h with | [], _ => rfl) (fun _ => rfl) (fun r as h => match as, h with | [], _ => rfl) (fun r j z => nomatch z) .nil (hm.bindR.imp (fun r23 hm v H hA => ?_) fun _ q => q)
                refine (o2_neD (x := (r19 : (List (Int × Int)))) (y := (r23 : (List (Int × Int)))) (.dat (bx_t (bx_p2 bx_i bx_i))) (.dat (bx_t (bx_p2 bx_i bx_i))) (eq_t (eq_p2 eq_i eq_i))) _ _ _ _ _ _ _ hA fun v H hA => ?_
                refine f_tst (P := fun c H1 => _) hA fun hA => ?_
                refine f_pick hm (fun hm => ?_) (fun hm => ?_)
                ·
                  exact hm H hA
                ·
                  refine x_test ?_
                  refine x_op ?_
                  refine (ev_op (ev_var rfl) (ev_var rfl) (o2_eqD (x := (r18 : (List (Int × Int)))) (y := (r19 : (List (Int × Int)))) (.dat (bx_t (bx_p2 bx_i bx_i))) (.dat (bx_t (bx_p2 bx_i bx_i))) (eq_t (eq_p2 eq_i eq_i)))) _ _ _ _ _ hA fun v H hA => ?_
                  refine x_call3 ?_
                  refine (ev_var rfl) _ _ _ _ _ hA fun v H hA => ?_
                  replace hA := hA.box (Bx.hd (x := r8.1) (bx_t (bx_p2 (bx_t bx_s) bx_s)))
                  refine (ev_var rfl) _ _ _ _ _ hA fun v H hA => ?_
                  replace hA := hA.box (Bx.hd (x := r9.1) (bx_l bx_i))
                  refine (ev_var rfl) _ _ _ _ _ hA fun v H hA => ?_
                  replace hA := hA.box (Bx.hd (x := b14) (bx_l bx_i))
                  refine f_call [.d (eD ((dT (dP2 (dT PyData.str) PyData.str)) r8.1)), .d (eD ((dL PyData.int) r9.1)), .d (eD ((dL PyData.int) b14))] (((dT (dP2 (dT PyData.str) PyData.str)) r8.1), ((dL PyData.int) r9.1), ((dL PyData.int) b14)) (fun r => []) hA rfl rfl True.intro (fun as h => match as, h with | [], _ => rfl) (fun _ => rfl) (fun r as h => match as, h with | [], _ => rfl) (fun r j z => nomatch z) .nil (hm.bindR.imp (fun r24 hm v H hA => ?_) fun _ q => q)
                  refine o2_neB _ _ _ _ _ _ _ hA fun v H hA => ?_
                  refine f_tst (P := fun c H1 => _) hA fun hA => ?_
                  exact hm H hA
              ·
                replace hA : At K g [none, none, some (.dat ((eL eS) r2.1)), some (.dat (eI s5.2)), some (.dat ((eT (eP2 (eT eS) eS)) r8.1)), some (.dat ((eL eI) r9.1)), some (.dat ((eL eI) r10.1)), none, some (.dat ((eL eI) ys12)), some (.dat ((eL eI) b14)), some (.dat ((eT (eP2 eI eI)) r18)), some (.dat ((eT (eP2 eI eI)) r19))] _ _ _ := hA
                refine f_ifS hm (fun hm => ?_) (fun hm => ?_)
                ·
                  refine bj_go hA hm ?_
                  change BJ K _ [none, none, some (.dat ((eL eS) r2.1)), some (.dat (eI s5.2)), some (.dat ((eT (eP2 (eT eS) eS)) r8.1)), some (.dat ((eL eI) r9.1)), some (.dat ((eL eI) r10.1)), none, some (.dat ((eL eI) ys12)), some (.dat ((eL eI) b14)), some (.dat ((eT (eP2 eI eI)) r18)), some (.dat ((eT (eP2 eI eI)) r19))] _ _ _ _ _
                  refine bj_assoc ?_
                  refine fun g σ H D hA hm => x_ret ?_
                  refine ev_bl _ _ _ _ _ hA fun v H hA => ?_
                  exact hm v H _ (hA.weak1 (.d .nil) fun j z => nomatch z)
                ·
                  refine bj_go hA hm ?_
                  change BJ K _ [none, none, some (.dat ((eL eS) r2.1)), some (.dat (eI s5.2)), some (.dat ((eT (eP2 (eT eS) eS)) r8.1)), some (.dat ((eL eI) r9.1)), some (.dat ((eL eI) r10.1)), none, some (.dat ((eL eI) ys12)), some (.dat ((eL eI) b14)), some (.dat ((eT (eP2 eI eI)) r18)), some (.dat ((eT (eP2 eI eI)) r19))] _ _ _ _ _
                  refine bj_pass ?_
                  exact bj_nx (a := ()) (.d (.d (.s (.s (.s (.s (.s (.d (.s (.d (.d (.d .nil))))))))))))
    ·
      change BJ K _ [none, none, some (.dat ((eL eS) r2.1)), some (.dat (eI s5.2)), some (.dat ((eT (eP2 (eT eS) eS)) r8.1)), some (.dat ((eL eI) r9.1)), some (.dat ((eL eI) r10.1)), none, some (.dat ((eL eI) ys12)), none, none, none] _ _ _ _ _
      refine fun g σ H D hA hm => x_ifS ?_
      refine f_joinT (fun (s : Bool) => [none, none, some (.dat ((eL eS) r2.1)), some (.dat (eI s5.2)), some (.dat ((eT (eP2 (eT eS) eS)) r8.1)), some (.dat ((eL eI) r9.1)), some (.dat ((eL eI) r10.1)), none, some (.dat ((eL eI) ys12)), none, none, none]) (fun s => s) hA hm (fun hm => ?_) (fun j25 H hA hm => ?_)
      ·
        refine x_orT ?_
        refine x_test ?_
        refine x_op ?_
        refine x_call2 ?_
        refine (ev_tup [] ea_nil) _ _ _ _ _ hA fun v H hA => ?_
        replace hA := hA.box (Bx.hd (x := ([] : List Int)) (bx_t bx_i))
        refine (ev_tup [] ea_nil) _ _ _ _ _ hA fun v H hA => ?_
        replace hA := hA.box (Bx.hd (x := ([] : List Int)) (bx_t bx_i))
        refine f_call [.d (eD ((dT PyData.int) ([] : List Int))), .d (eD ((dT PyData.int) ([] : List Int)))] (((dT PyData.int) ([] : List Int)), ((dT PyData.int) ([] : List Int))) (fun r => []) hA rfl rfl True.intro (fun as h => match as, h with | [], _ => rfl) (fun _ => rfl) (fun r as h => match as, h with | [], _ => rfl) (fun r j z => nomatch z) .nil (hm.bindR.imp (fun r26 hm v H hA => ?_) fun _ q => q)
        refine (ev_tup [] ea_nil) _ _ _ _ _ hA fun v H hA => ?_
        refine f_o2m (o2_neDM (a := ((dT (dP2 PyData.int PyData.int)) r26)) (b := ((dT PyData.int) ([] : List Int))) (.dat (bx_t (bx_p2 bx_i bx_i))) (.dat (bx_t bx_i))) hA hm fun t27 v H hA hm => ?_
        refine f_tst (P := fun c H1 => _) hA fun hA => ?_
        refine f_pick hm (fun hm => ?_) (fun hm => ?_)
        ·
          exact hm H hA
        ·
          refine x_orT ?_
          refine x_test ?_
          refine x_op ?_
          refine x_call3 ?_
          refine (ev_tup [] ea_nil) _ _ _ _ _ hA fun v H hA => ?_
          replace hA := hA.box (Bx.hd (x := ([] : List Int)) (bx_t bx_i))
          refine (ev_tup [] ea_nil) _ _ _ _ _ hA fun v H hA => ?_
          replace hA := hA.box (Bx.hd (x := ([] : List Int)) (bx_t bx_i))
          refine (ev_lst [] ea_nil) _ _ _ _ _ hA fun v H hA => ?_
          replace hA := hA.frz
          replace hA := hA.box (Bx.hd (x := ([] : List Int)) (bx_l bx_i))
          refine f_call [.d (eD ((dT PyData.int) ([] : List Int))), .d (eD ((dT PyData.int) ([] : List Int))), .d (eD ((dL PyData.int) ([] : List Int)))] (((dT PyData.int) ([] : List Int)), ((dT PyData.int) ([] : List Int)), ((dL PyData.int) ([] : List Int))) (fun r => []) hA rfl rfl True.intro (fun as h => match as, h with | [], _ => rfl) (fun _ => rfl) (fun r as h => match as, h with | [], _ => rfl) (fun r j z => nomatch z) .nil (hm.bindR.imp (fun r28 hm v H hA => ?_) fun _ q => q)
          refine (ev_tup [] ea_nil) _ _ _ _ _ hA fun v H hA => ?_
          refine (o2_neD (d := (dO (dT PyData.int))) (x := (r28 : (Option (List Int)))) (y := ((some ([] : List Int)) : (Option (List Int)))) (DpT.dat (d := (dO (dT PyData.int))) (x := (r28 : (Option (List Int)))) (bx_o (bx_t bx_i))) (DpT.dat (d := (dT PyData.int)) (x := (([] : List Int) : (List Int))) (bx_t bx_i)) (eq_o (eq_t eq_i) non_t)) _ _ _ _ _ _ _ hA fun v H hA => ?_
          refine f_tst (P := fun c H1 => _) hA fun hA => ?_
          refine f_pick hm (fun hm => ?_) (fun hm => ?_)
          ·
            exact hm H hA
          ·
            refine x_test ?_
            refine x_op ?_
            refine x_call3 ?_
            refine (ev_lst [] ea_nil) _ _ _ _ _ hA fun v H hA => ?_
            replace hA := hA.frz
            replace hA := hA.box (Bx.hd (x := ([] : List Int)) (bx_l bx_i))
            refine (ev_lst [] ea_nil) _ _ _ _ _ hA fun v H hA => ?_
            replace hA := hA.frz
            replace hA := hA.box (Bx.hd (x := ([] : List Int)) (bx_l bx_i))
            refine (ev_tup [] ea_nil) _ _ _ _ _ hA fun v H hA => ?_
            replace hA := hA.box (Bx.hd (x := ([] : List Int)) (bx_t bx_i))
            refine f_call [.d (eD ((dL PyData.int) ([] : List Int))), .d (eD ((dL PyData.int) ([] : List Int))), .d (eD ((dT PyData.int) ([] : List Int)))] (((dL PyData.int) ([] : List Int)), ((dL PyData.int) ([] : List Int)), ((dT PyData.int) ([] : List Int))) (fun r => []) hA rfl rfl True.intro (fun as h => match as, h with | [], _ => rfl) (fun _ => rfl) (fun r as h => match as, h with | [], _ => rfl) (fun r j z => nomatch z) .nil (hm.bindR.imp (fun r29 hm v H hA => ?_) fun _ q => q)
            refine ev_bl _ _ _ _ _ hA fun v H hA => ?_
            refine o2_notB _ _ _ _ _ _ _ hA fun v H hA => ?_
            refine f_tst (P := fun c H1 => _) hA fun hA => ?_
            exact hm H hA
      ·
        replace hA : At K g [none, none, some (.dat ((eL eS) r2.1)), some (.dat (eI s5.2)), some (.dat ((eT (eP2 (eT eS) eS)) r8.1)), some (.dat ((eL eI) r9.1)), some (.dat ((eL eI) r10.1)), none, some (.dat ((eL eI) ys12)), none, none, none] _ _ _ := hA
        refine f_ifS hm (fun hm => ?_) (fun hm => ?_)
        ·
          refine bj_go hA hm ?_
          change BJ K _ [none, none, some (.dat ((eL eS) r2.1)), some (.dat (eI s5.2)), some (.dat ((eT (eP2 (eT eS) eS)) r8.1)), some (.dat ((eL eI) r9.1)), some (.dat ((eL eI) r10.1)), none, some (.dat ((eL eI) ys12)), none, none, none] _ _ _ _ _
          refine bj_assoc ?_
          refine fun g σ H D hA hm => x_ret ?_
          refine ev_bl _ _ _ _ _ hA fun v H hA => ?_
          exact hm v H _ (hA.weak1 (.d .nil) fun j z => nomatch z)
        ·
          refine bj_go hA hm ?_
          change BJ K _ [none, none, some (.dat ((eL eS) r2.1)), some (.dat (eI s5.2)), some (.dat ((eT (eP2 (eT eS) eS)) r8.1)), some (.dat ((eL eI) r9.1)), some (.dat ((eL eI) r10.1)), none, some (.dat ((eL eI) ys12)), none, none, none] _ _ _ _ _
          refine bj_pass ?_
          refine fun g σ H D hA hm => x_ifS ?_
          refine f_joinT (fun (s : Bool) => [none, none, some (.dat ((eL eS) r2.1)), some (.dat (eI s5.2)), some (.dat ((eT (eP2 (eT eS) eS)) r8.1)), some (.dat ((eL eI) r9.1)), some (.dat ((eL eI) r10.1)), none, some (.dat ((eL eI) ys12)), none, none, none]) (fun s => s) hA hm (fun hm => ?_) (fun j30 H hA hm => ?_)
          ·
            refine x_orT ?_
            refine x_test ?_
            refine x_op ?_
            refine x_call3 ?_
            refine (ev_var rfl) _ _ _ _ _ hA fun v H hA => ?_
            replace hA := hA.box (Bx.hd (x := r8.1) (bx_t (bx_p2 (bx_t bx_s) bx_s)))
            refine (ev_var rfl) _ _ _ _ _ hA fun v H hA => ?_
            replace hA := hA.box (Bx.hd (x := r9.1) (bx_l bx_i))
            refine (ev_var rfl) _ _ _ _ _ hA fun v H hA => ?_
            replace hA := hA.box (Bx.hd (x := r10.1) (bx_l bx_i))
            refine f_call [.d (eD ((dT (dP2 (dT PyData.str) PyData.str)) r8.1)), .d (eD ((dL PyData.int) r9.1)), .d (eD ((dL PyData.int) r10.1))] (((dT (dP2 (dT PyData.str) PyData.str)) r8.1), ((dL PyData.int) r9.1), ((dL PyData.int) r10.1)) (fun r => []) hA rfl rfl True.intro (fun as h => match as, h with | [], _ => rfl) (fun _ => rfl) (fun r as h => match as, h with | [], _ => rfl) (fun r j z => nomatch z) .nil (hm.bindR.imp (fun r31 hm v H hA => ?_) fun _ q => q)
            refine ev_non _ _ _ _ _ hA fun v H hA => ?_
            refine (o2_isN nn_t) _ _ _ _ _ _ _ hA fun v H hA => ?_
            refine f_tst (P := fun c H1 => _) hA fun hA => ?_
            refine f_pick hm (fun hm => ?_) (fun hm => ?_)
            ·
              exact hm H hA
            ·
              refine x_test ?_
              refine x_op ?_
              refine x_cb1 ?_
              refine x_call2 ?_
              refine (ev_var rfl) _ _ _ _ _ hA fun v H hA => ?_
              refine (ev_var rfl) _ _ _ _ _ hA fun v H hA => ?_
              refine f_call [.d ((eL eI) r9.1), .d ((eL eI) ys12)] (r9.1, ys12) (fun r => []) hA rfl rfl True.intro (fun as h => match as, h with | [], _ => rfl) (fun _ => rfl) (fun r as h => match as, h with | [], _ => rfl) (fun r j z => nomatch z) .nil (hm.bindR.imp (fun r32 hm v H hA => ?_) fun _ q => q)
              refine o1_lenT r32 (eP2 eI eI) (.l .dat) _ _ _ _ _ _ hA fun v H hA => ?_
              refine x_op ?_
              refine x_op ?_
              refine (ev_var rfl) _ _ _ _ _ hA fun v H hA => ?_
              refine (ev_op (ev_var rfl) ev_int o2_i0) _ _ _ _ _ hA fun v H hA => ?_
              refine f_o2m o2_mul hA hm fun t33 v H hA hm => ?_
              refine ev_int _ _ _ _ _ hA fun v H hA => ?_
              refine (o2_divK) _ _ _ _ _ _ _ hA fun v H hA => ?_
              refine o2_neI _ _ _ _ _ _ _ hA fun v H hA => ?_
              refine f_tst (P := fun c H1 => _) hA fun hA => ?_
              exact hm H hA
          ·
            replace hA : At K g [none, none, some (.dat ((eL eS) r2.1)), some (.dat (eI s5.2)), some (.dat ((eT (eP2 (eT eS) eS)) r8.1)), some (.dat ((eL eI) r9.1)), some (.dat ((eL eI) r10.1)), none, some (.dat ((eL eI) ys12)), none, none, none] _ _ _ := hA
            refine f_ifS hm (fun hm => ?_) (fun hm => ?_)
            ·
              refine bj_go hA hm ?_
              change BJ K _ [none, none, some (.dat ((eL eS) r2.1)), some (.dat (eI s5.2)), some (.dat ((eT (eP2 (eT eS) eS)) r8.1)), some (.dat ((eL eI) r9.1)), some (.dat ((eL eI) r10.1)), none, some (.dat ((eL eI) ys12)), none, none, none] _ _ _ _ _
              refine bj_assoc ?_
              refine fun g σ H D hA hm => x_ret ?_
              refine ev_bl _ _ _ _ _ hA fun v H hA => ?_
              exact hm v H _ (hA.weak1 (.d .nil) fun j z => nomatch z)
            ·
              refine bj_go hA hm ?_
              change BJ K _ [none, none, some (.dat ((eL eS) r2.1)), some (.dat (eI s5.2)), some (.dat ((eT (eP2 (eT eS) eS)) r8.1)), some (.dat ((eL eI) r9.1)), some (.dat ((eL eI) r10.1)), none, some (.dat ((eL eI) ys12)), none, none, none] _ _ _ _ _
              refine bj_pass ?_
              refine fun g σ H D hA hm => x_ret ?_
              refine x_call3 ?_
              refine (ev_var rfl) _ _ _ _ _ hA fun v H hA => ?_
              refine (ev_var rfl) _ _ _ _ _ hA fun v H hA => ?_
              refine (ev_var rfl) _ _ _ _ _ hA fun v H hA => ?_
              refine f_call [.d ((eL eS) r2.1), .d ((eT (eP2 (eT eS) eS)) r8.1), .d ((eL eI) r9.1)] (r2.1, r8.1, r9.1) (fun r => []) hA rfl rfl True.intro (fun as h => match as, h with | [], _ => rfl) (fun _ => rfl) (fun r as h => match as, h with | [], _ => rfl) (fun r j z => nomatch z) .nil (hm.bindR.imp (fun r34 hm v H hA => ?_) fun _ q => q)
              exact hm v H _ (hA.weak1 (.d .nil) fun j z => nomatch z)
end
end Lw

set_option Elab.async false
set_option linter.all false
set_option maxRecDepth 100000
set_option maxHeartbeats 4000000
namespace Lw
open PySem L2 Gv PyProof.Rows
theorem all_mk (hlaw : ∀ ns : List Int, ns.length ≤ 63 → f_law ns = .nx true) {l : PySem.W.OpenLaw} {w : World} {K : PySem.W.Frag} {h : Heap} {mg : Str → Option Value} {fa f_is_whole f_whole_in f_each_once f_is_name f_frame_rung_fits f_check_frame f_touching f_directed f_parted f_check_two_orders f_same_for_all f_swaps f_directions f_law_numbers f_law_draw f_law_int f_law_pool f_law_frame f_law_touch f_law_order f_law_led f_law_unlike f_law_directions f_law_swaps_right f_law_word f_law_refused f_law c_BadBook i_BadBook c_BadNumber i_BadNumber c_RungsError c_TooMany i_TooMany : Addr} (X : K.In h) (G : h.Ns mainGlobals mg) (hfa : mg "law" = some (.ref fa))
    {od_is_whole an_is_whole od_whole_in an_whole_in od_each_once an_each_once od_is_name an_is_name od_frame_rung_fits an_frame_rung_fits od_check_frame an_check_frame od_touching an_touching od_directed an_directed od_parted an_parted od_check_two_orders an_check_two_orders od_same_for_all an_same_for_all od_swaps an_swaps od_directions an_directions od_law_numbers an_law_numbers od_law_draw an_law_draw od_law_int an_law_int od_law_pool an_law_pool od_law_frame an_law_frame od_law_touch an_law_touch od_law_order an_law_order od_law_led an_law_led od_law_unlike an_law_unlike od_law_directions an_law_directions od_law_swaps_right an_law_swaps_right od_law_word an_law_word od_law_refused an_law_refused od_law an_law od_IBadBook an_IBadBook od_IBadNumber an_IBadNumber od_ITooMany an_ITooMany : Option Addr} {sl_is_whole sl_whole_in sl_each_once sl_is_name sl_frame_rung_fits sl_check_frame sl_touching sl_directed sl_parted sl_check_two_orders sl_same_for_all sl_swaps sl_directions sl_law_numbers sl_law_draw sl_law_int sl_law_pool sl_law_frame sl_law_touch sl_law_order sl_law_led sl_law_unlike sl_law_directions sl_law_swaps_right sl_law_word sl_law_refused sl_law sl_IBadBook sl_IBadNumber sl_ITooMany : Array (Option Value)} {oc_is_whole kV_is_whole dc_is_whole pm_is_whole cd_is_whole ct_is_whole oc_whole_in kV_whole_in dc_whole_in pm_whole_in cd_whole_in ct_whole_in oc_each_once kV_each_once dc_each_once pm_each_once cd_each_once ct_each_once oc_is_name kV_is_name dc_is_name pm_is_name cd_is_name ct_is_name oc_frame_rung_fits kV_frame_rung_fits dc_frame_rung_fits pm_frame_rung_fits cd_frame_rung_fits ct_frame_rung_fits oc_check_frame kV_check_frame dc_check_frame pm_check_frame cd_check_frame ct_check_frame oc_touching kV_touching dc_touching pm_touching cd_touching ct_touching oc_directed kV_directed dc_directed pm_directed cd_directed ct_directed oc_parted kV_parted dc_parted pm_parted cd_parted ct_parted oc_check_two_orders kV_check_two_orders dc_check_two_orders pm_check_two_orders cd_check_two_orders ct_check_two_orders oc_same_for_all kV_same_for_all dc_same_for_all pm_same_for_all cd_same_for_all ct_same_for_all oc_swaps kV_swaps dc_swaps pm_swaps cd_swaps ct_swaps oc_directions kV_directions dc_directions pm_directions cd_directions ct_directions oc_law_numbers kV_law_numbers dc_law_numbers pm_law_numbers cd_law_numbers ct_law_numbers oc_law_draw kV_law_draw dc_law_draw pm_law_draw cd_law_draw ct_law_draw oc_law_int kV_law_int dc_law_int pm_law_int cd_law_int ct_law_int oc_law_pool kV_law_pool dc_law_pool pm_law_pool cd_law_pool ct_law_pool oc_law_frame kV_law_frame dc_law_frame pm_law_frame cd_law_frame ct_law_frame oc_law_touch kV_law_touch dc_law_touch pm_law_touch cd_law_touch ct_law_touch oc_law_order kV_law_order dc_law_order pm_law_order cd_law_order ct_law_order oc_law_led kV_law_led dc_law_led pm_law_led cd_law_led ct_law_led oc_law_unlike kV_law_unlike dc_law_unlike pm_law_unlike cd_law_unlike ct_law_unlike oc_law_directions kV_law_directions dc_law_directions pm_law_directions cd_law_directions ct_law_directions oc_law_swaps_right kV_law_swaps_right dc_law_swaps_right pm_law_swaps_right cd_law_swaps_right ct_law_swaps_right oc_law_word kV_law_word dc_law_word pm_law_word cd_law_word ct_law_word oc_law_refused kV_law_refused dc_law_refused pm_law_refused cd_law_refused ct_law_refused oc_law kV_law dc_law pm_law cd_law ct_law oc_IBadBook kV_IBadBook dc_IBadBook pm_IBadBook cd_IBadBook ct_IBadBook oc_IBadNumber kV_IBadNumber dc_IBadNumber pm_IBadNumber cd_IBadNumber ct_IBadNumber oc_ITooMany kV_ITooMany dc_ITooMany pm_ITooMany cd_ITooMany ct_ITooMany : Value}
    {t_KEPT_WORDS : Addr} {dt_KEPT_WORDS : Option Addr} {nt_KEPT_WORDS : Nat} {slt_KEPT_WORDS : Array (Option Value)} {tkt_KEPT_WORDS0 tkt_KEPT_WORDS1 tkt_KEPT_WORDS2 tkt_KEPT_WORDS3 tkt_KEPT_WORDS4 : Tok}
    {tk_LETTERS tk_LONGEST tk_MOST_FRAMED tk_NAME_SIGNS : Tok}
    {nm_BadBook qn_BadBook : Str} {ns_BadBook b0_BadBook : Addr} {bs_BadBook : List Value} {sn_BadBook : List Str} {sb_BadBook : List Value} {ab_BadBook : Bool} {col_BadBook : Option Bool} {dd_BadBook : Option Addr} {m0_BadBook m1_BadBook m2_BadBook m3_BadBook m5_BadBook : Option Value}
    {nm_BadNumber qn_BadNumber : Str} {ns_BadNumber b0_BadNumber : Addr} {bs_BadNumber : List Value} {sn_BadNumber : List Str} {sb_BadNumber : List Value} {ab_BadNumber : Bool} {col_BadNumber : Option Bool} {dd_BadNumber : Option Addr} {m0_BadNumber m1_BadNumber m2_BadNumber m3_BadNumber m5_BadNumber : Option Value}
    {nm_TooMany qn_TooMany : Str} {ns_TooMany b0_TooMany : Addr} {bs_TooMany : List Value} {sn_TooMany : List Str} {sb_TooMany : List Value} {ab_TooMany : Bool} {col_TooMany : Option Bool} {dd_TooMany : Option Addr} {m0_TooMany m1_TooMany m2_TooMany m3_TooMany m5_TooMany : Option Value}
    (z_bool : PySem.W.nsIn K mainGlobals "bool" = some none)
    (z_enumerate : PySem.W.nsIn K mainGlobals "enumerate" = some none)
    (z_int : PySem.W.nsIn K mainGlobals "int" = some none)
    (z_isinstance : PySem.W.nsIn K mainGlobals "isinstance" = some none)
    (z_len : PySem.W.nsIn K mainGlobals "len" = some none)
    (z_list : PySem.W.nsIn K mainGlobals "list" = some none)
    (z_max : PySem.W.nsIn K mainGlobals "max" = some none)
    (z_min : PySem.W.nsIn K mainGlobals "min" = some none)
    (z_range : PySem.W.nsIn K mainGlobals "range" = some none)
    (z_set : PySem.W.nsIn K mainGlobals "set" = some none)
    (z_sorted : PySem.W.nsIn K mainGlobals "sorted" = some none)
    (z_str : PySem.W.nsIn K mainGlobals "str" = some none)
    (z_tuple : PySem.W.nsIn K mainGlobals "tuple" = some none)
    (z_zip : PySem.W.nsIn K mainGlobals "zip" = some none)
    (k_LETTERS : PySem.W.nsIn K mainGlobals "LETTERS" = some (some (.str "abcdefghijklmnopqrstuvwxyz" tk_LETTERS)))
    (k_LONGEST : PySem.W.nsIn K mainGlobals "LONGEST" = some (some (.int 40 tk_LONGEST)))
    (k_MOST_FRAMED : PySem.W.nsIn K mainGlobals "MOST_FRAMED" = some (some (.int 8 tk_MOST_FRAMED)))
    (k_NAME_SIGNS : PySem.W.nsIn K mainGlobals "NAME_SIGNS" = some (some (.str "abcdefghijklmnopqrstuvwxyz0123456789." tk_NAME_SIGNS)))
    (k_KEPT_WORDS : PySem.W.nsIn K mainGlobals "KEPT_WORDS" = some (some (.ref t_KEPT_WORDS)))
    (lt_KEPT_WORDS : K.lookup t_KEPT_WORDS = some ⟨.type "tuple", dt_KEPT_WORDS, .seq #[.str "not" tkt_KEPT_WORDS0, .str "and" tkt_KEPT_WORDS1, .str "or" tkt_KEPT_WORDS2, .str "rise" tkt_KEPT_WORDS3, .str "fall" tkt_KEPT_WORDS4] nt_KEPT_WORDS, slt_KEPT_WORDS⟩)
    (a_is_whole : PySem.W.nsIn K mainGlobals "_is_whole" = some (some (.ref f_is_whole)))
    (l_is_whole : K.lookup f_is_whole = some ⟨oc_is_whole, od_is_whole, .func (PySem.W.fnOf "_is_whole" "_is_whole" (defArgs st_is_whole) (defBody st_is_whole) (defScope st_is_whole) .none kV_is_whole dc_is_whole pm_is_whole an_is_whole cd_is_whole ct_is_whole), sl_is_whole⟩)
    (q_is_whole : PySem.W.codeIn K cd_is_whole "_is_whole" = true)
    (p_is_whole : PySem.W.keepIn K (.ref f_is_whole) = true)
    (a_whole_in : PySem.W.nsIn K mainGlobals "_whole_in" = some (some (.ref f_whole_in)))
    (l_whole_in : K.lookup f_whole_in = some ⟨oc_whole_in, od_whole_in, .func (PySem.W.fnOf "_whole_in" "_whole_in" (defArgs st_whole_in) (defBody st_whole_in) (defScope st_whole_in) .none kV_whole_in dc_whole_in pm_whole_in an_whole_in cd_whole_in ct_whole_in), sl_whole_in⟩)
    (q_whole_in : PySem.W.codeIn K cd_whole_in "_whole_in" = true)
    (p_whole_in : PySem.W.keepIn K (.ref f_whole_in) = true)
    (a_each_once : PySem.W.nsIn K mainGlobals "_each_once" = some (some (.ref f_each_once)))
    (l_each_once : K.lookup f_each_once = some ⟨oc_each_once, od_each_once, .func (PySem.W.fnOf "_each_once" "_each_once" (defArgs st_each_once) (defBody st_each_once) (defScope st_each_once) .none kV_each_once dc_each_once pm_each_once an_each_once cd_each_once ct_each_once), sl_each_once⟩)
    (q_each_once : PySem.W.codeIn K cd_each_once "_each_once" = true)
    (p_each_once : PySem.W.keepIn K (.ref f_each_once) = true)
    (a_is_name : PySem.W.nsIn K mainGlobals "is_name" = some (some (.ref f_is_name)))
    (l_is_name : K.lookup f_is_name = some ⟨oc_is_name, od_is_name, .func (PySem.W.fnOf "is_name" "is_name" (defArgs st_is_name) (defBody st_is_name) (defScope st_is_name) .none kV_is_name dc_is_name pm_is_name an_is_name cd_is_name ct_is_name), sl_is_name⟩)
    (q_is_name : PySem.W.codeIn K cd_is_name "is_name" = true)
    (p_is_name : PySem.W.keepIn K (.ref f_is_name) = true)
    (a_frame_rung_fits : PySem.W.nsIn K mainGlobals "_frame_rung_fits" = some (some (.ref f_frame_rung_fits)))
    (l_frame_rung_fits : K.lookup f_frame_rung_fits = some ⟨oc_frame_rung_fits, od_frame_rung_fits, .func (PySem.W.fnOf "_frame_rung_fits" "_frame_rung_fits" (defArgs st_frame_rung_fits) (defBody st_frame_rung_fits) (defScope st_frame_rung_fits) .none kV_frame_rung_fits dc_frame_rung_fits pm_frame_rung_fits an_frame_rung_fits cd_frame_rung_fits ct_frame_rung_fits), sl_frame_rung_fits⟩)
    (q_frame_rung_fits : PySem.W.codeIn K cd_frame_rung_fits "_frame_rung_fits" = true)
    (p_frame_rung_fits : PySem.W.keepIn K (.ref f_frame_rung_fits) = true)
    (a_check_frame : PySem.W.nsIn K mainGlobals "check_frame" = some (some (.ref f_check_frame)))
    (l_check_frame : K.lookup f_check_frame = some ⟨oc_check_frame, od_check_frame, .func (PySem.W.fnOf "check_frame" "check_frame" (defArgs st_check_frame) (defBody st_check_frame) (defScope st_check_frame) .none kV_check_frame dc_check_frame pm_check_frame an_check_frame cd_check_frame ct_check_frame), sl_check_frame⟩)
    (q_check_frame : PySem.W.codeIn K cd_check_frame "check_frame" = true)
    (p_check_frame : PySem.W.keepIn K (.ref f_check_frame) = true)
    (a_touching : PySem.W.nsIn K mainGlobals "touching" = some (some (.ref f_touching)))
    (l_touching : K.lookup f_touching = some ⟨oc_touching, od_touching, .func (PySem.W.fnOf "touching" "touching" (defArgs st_touching) (defBody st_touching) (defScope st_touching) .none kV_touching dc_touching pm_touching an_touching cd_touching ct_touching), sl_touching⟩)
    (q_touching : PySem.W.codeIn K cd_touching "touching" = true)
    (p_touching : PySem.W.keepIn K (.ref f_touching) = true)
    (a_directed : PySem.W.nsIn K mainGlobals "_directed" = some (some (.ref f_directed)))
    (l_directed : K.lookup f_directed = some ⟨oc_directed, od_directed, .func (PySem.W.fnOf "_directed" "_directed" (defArgs st_directed) (defBody st_directed) (defScope st_directed) .none kV_directed dc_directed pm_directed an_directed cd_directed ct_directed), sl_directed⟩)
    (q_directed : PySem.W.codeIn K cd_directed "_directed" = true)
    (p_directed : PySem.W.keepIn K (.ref f_directed) = true)
    (a_parted : PySem.W.nsIn K mainGlobals "_parted" = some (some (.ref f_parted)))
    (l_parted : K.lookup f_parted = some ⟨oc_parted, od_parted, .func (PySem.W.fnOf "_parted" "_parted" (defArgs st_parted) (defBody st_parted) (defScope st_parted) .none kV_parted dc_parted pm_parted an_parted cd_parted ct_parted), sl_parted⟩)
    (q_parted : PySem.W.codeIn K cd_parted "_parted" = true)
    (p_parted : PySem.W.keepIn K (.ref f_parted) = true)
    (a_check_two_orders : PySem.W.nsIn K mainGlobals "_check_two_orders" = some (some (.ref f_check_two_orders)))
    (l_check_two_orders : K.lookup f_check_two_orders = some ⟨oc_check_two_orders, od_check_two_orders, .func (PySem.W.fnOf "_check_two_orders" "_check_two_orders" (defArgs st_check_two_orders) (defBody st_check_two_orders) (defScope st_check_two_orders) .none kV_check_two_orders dc_check_two_orders pm_check_two_orders an_check_two_orders cd_check_two_orders ct_check_two_orders), sl_check_two_orders⟩)
    (q_check_two_orders : PySem.W.codeIn K cd_check_two_orders "_check_two_orders" = true)
    (p_check_two_orders : PySem.W.keepIn K (.ref f_check_two_orders) = true)
    (a_same_for_all : PySem.W.nsIn K mainGlobals "same_for_all" = some (some (.ref f_same_for_all)))
    (l_same_for_all : K.lookup f_same_for_all = some ⟨oc_same_for_all, od_same_for_all, .func (PySem.W.fnOf "same_for_all" "same_for_all" (defArgs st_same_for_all) (defBody st_same_for_all) (defScope st_same_for_all) .none kV_same_for_all dc_same_for_all pm_same_for_all an_same_for_all cd_same_for_all ct_same_for_all), sl_same_for_all⟩)
    (q_same_for_all : PySem.W.codeIn K cd_same_for_all "same_for_all" = true)
    (p_same_for_all : PySem.W.keepIn K (.ref f_same_for_all) = true)
    (a_swaps : PySem.W.nsIn K mainGlobals "swaps" = some (some (.ref f_swaps)))
    (l_swaps : K.lookup f_swaps = some ⟨oc_swaps, od_swaps, .func (PySem.W.fnOf "swaps" "swaps" (defArgs st_swaps) (defBody st_swaps) (defScope st_swaps) .none kV_swaps dc_swaps pm_swaps an_swaps cd_swaps ct_swaps), sl_swaps⟩)
    (q_swaps : PySem.W.codeIn K cd_swaps "swaps" = true)
    (p_swaps : PySem.W.keepIn K (.ref f_swaps) = true)
    (a_directions : PySem.W.nsIn K mainGlobals "directions" = some (some (.ref f_directions)))
    (l_directions : K.lookup f_directions = some ⟨oc_directions, od_directions, .func (PySem.W.fnOf "directions" "directions" (defArgs st_directions) (defBody st_directions) (defScope st_directions) .none kV_directions dc_directions pm_directions an_directions cd_directions ct_directions), sl_directions⟩)
    (q_directions : PySem.W.codeIn K cd_directions "directions" = true)
    (p_directions : PySem.W.keepIn K (.ref f_directions) = true)
    (a_law_numbers : PySem.W.nsIn K mainGlobals "_law_numbers" = some (some (.ref f_law_numbers)))
    (l_law_numbers : K.lookup f_law_numbers = some ⟨oc_law_numbers, od_law_numbers, .func (PySem.W.fnOf "_law_numbers" "_law_numbers" (defArgs st_law_numbers) (defBody st_law_numbers) (defScope st_law_numbers) .none kV_law_numbers dc_law_numbers pm_law_numbers an_law_numbers cd_law_numbers ct_law_numbers), sl_law_numbers⟩)
    (q_law_numbers : PySem.W.codeIn K cd_law_numbers "_law_numbers" = true)
    (p_law_numbers : PySem.W.keepIn K (.ref f_law_numbers) = true)
    (a_law_draw : PySem.W.nsIn K mainGlobals "_law_draw" = some (some (.ref f_law_draw)))
    (l_law_draw : K.lookup f_law_draw = some ⟨oc_law_draw, od_law_draw, .func (PySem.W.fnOf "_law_draw" "_law_draw" (defArgs st_law_draw) (defBody st_law_draw) (defScope st_law_draw) .none kV_law_draw dc_law_draw pm_law_draw an_law_draw cd_law_draw ct_law_draw), sl_law_draw⟩)
    (q_law_draw : PySem.W.codeIn K cd_law_draw "_law_draw" = true)
    (p_law_draw : PySem.W.keepIn K (.ref f_law_draw) = true)
    (a_law_int : PySem.W.nsIn K mainGlobals "_law_int" = some (some (.ref f_law_int)))
    (l_law_int : K.lookup f_law_int = some ⟨oc_law_int, od_law_int, .func (PySem.W.fnOf "_law_int" "_law_int" (defArgs st_law_int) (defBody st_law_int) (defScope st_law_int) .none kV_law_int dc_law_int pm_law_int an_law_int cd_law_int ct_law_int), sl_law_int⟩)
    (q_law_int : PySem.W.codeIn K cd_law_int "_law_int" = true)
    (p_law_int : PySem.W.keepIn K (.ref f_law_int) = true)
    (a_law_pool : PySem.W.nsIn K mainGlobals "_law_pool" = some (some (.ref f_law_pool)))
    (l_law_pool : K.lookup f_law_pool = some ⟨oc_law_pool, od_law_pool, .func (PySem.W.fnOf "_law_pool" "_law_pool" (defArgs st_law_pool) (defBody st_law_pool) (defScope st_law_pool) .none kV_law_pool dc_law_pool pm_law_pool an_law_pool cd_law_pool ct_law_pool), sl_law_pool⟩)
    (q_law_pool : PySem.W.codeIn K cd_law_pool "_law_pool" = true)
    (p_law_pool : PySem.W.keepIn K (.ref f_law_pool) = true)
    (a_law_frame : PySem.W.nsIn K mainGlobals "_law_frame" = some (some (.ref f_law_frame)))
    (l_law_frame : K.lookup f_law_frame = some ⟨oc_law_frame, od_law_frame, .func (PySem.W.fnOf "_law_frame" "_law_frame" (defArgs st_law_frame) (defBody st_law_frame) (defScope st_law_frame) .none kV_law_frame dc_law_frame pm_law_frame an_law_frame cd_law_frame ct_law_frame), sl_law_frame⟩)
    (q_law_frame : PySem.W.codeIn K cd_law_frame "_law_frame" = true)
    (p_law_frame : PySem.W.keepIn K (.ref f_law_frame) = true)
    (a_law_touch : PySem.W.nsIn K mainGlobals "_law_touch" = some (some (.ref f_law_touch)))
    (l_law_touch : K.lookup f_law_touch = some ⟨oc_law_touch, od_law_touch, .func (PySem.W.fnOf "_law_touch" "_law_touch" (defArgs st_law_touch) (defBody st_law_touch) (defScope st_law_touch) .none kV_law_touch dc_law_touch pm_law_touch an_law_touch cd_law_touch ct_law_touch), sl_law_touch⟩)
    (q_law_touch : PySem.W.codeIn K cd_law_touch "_law_touch" = true)
    (p_law_touch : PySem.W.keepIn K (.ref f_law_touch) = true)
    (a_law_order : PySem.W.nsIn K mainGlobals "_law_order" = some (some (.ref f_law_order)))
    (l_law_order : K.lookup f_law_order = some ⟨oc_law_order, od_law_order, .func (PySem.W.fnOf "_law_order" "_law_order" (defArgs st_law_order) (defBody st_law_order) (defScope st_law_order) .none kV_law_order dc_law_order pm_law_order an_law_order cd_law_order ct_law_order), sl_law_order⟩)
    (q_law_order : PySem.W.codeIn K cd_law_order "_law_order" = true)
    (p_law_order : PySem.W.keepIn K (.ref f_law_order) = true)
    (a_law_led : PySem.W.nsIn K mainGlobals "_law_led" = some (some (.ref f_law_led)))
    (l_law_led : K.lookup f_law_led = some ⟨oc_law_led, od_law_led, .func (PySem.W.fnOf "_law_led" "_law_led" (defArgs st_law_led) (defBody st_law_led) (defScope st_law_led) .none kV_law_led dc_law_led pm_law_led an_law_led cd_law_led ct_law_led), sl_law_led⟩)
    (q_law_led : PySem.W.codeIn K cd_law_led "_law_led" = true)
    (p_law_led : PySem.W.keepIn K (.ref f_law_led) = true)
    (a_law_unlike : PySem.W.nsIn K mainGlobals "_law_unlike" = some (some (.ref f_law_unlike)))
    (l_law_unlike : K.lookup f_law_unlike = some ⟨oc_law_unlike, od_law_unlike, .func (PySem.W.fnOf "_law_unlike" "_law_unlike" (defArgs st_law_unlike) (defBody st_law_unlike) (defScope st_law_unlike) .none kV_law_unlike dc_law_unlike pm_law_unlike an_law_unlike cd_law_unlike ct_law_unlike), sl_law_unlike⟩)
    (q_law_unlike : PySem.W.codeIn K cd_law_unlike "_law_unlike" = true)
    (p_law_unlike : PySem.W.keepIn K (.ref f_law_unlike) = true)
    (a_law_directions : PySem.W.nsIn K mainGlobals "_law_directions" = some (some (.ref f_law_directions)))
    (l_law_directions : K.lookup f_law_directions = some ⟨oc_law_directions, od_law_directions, .func (PySem.W.fnOf "_law_directions" "_law_directions" (defArgs st_law_directions) (defBody st_law_directions) (defScope st_law_directions) .none kV_law_directions dc_law_directions pm_law_directions an_law_directions cd_law_directions ct_law_directions), sl_law_directions⟩)
    (q_law_directions : PySem.W.codeIn K cd_law_directions "_law_directions" = true)
    (p_law_directions : PySem.W.keepIn K (.ref f_law_directions) = true)
    (a_law_swaps_right : PySem.W.nsIn K mainGlobals "_law_swaps_right" = some (some (.ref f_law_swaps_right)))
    (l_law_swaps_right : K.lookup f_law_swaps_right = some ⟨oc_law_swaps_right, od_law_swaps_right, .func (PySem.W.fnOf "_law_swaps_right" "_law_swaps_right" (defArgs st_law_swaps_right) (defBody st_law_swaps_right) (defScope st_law_swaps_right) .none kV_law_swaps_right dc_law_swaps_right pm_law_swaps_right an_law_swaps_right cd_law_swaps_right ct_law_swaps_right), sl_law_swaps_right⟩)
    (q_law_swaps_right : PySem.W.codeIn K cd_law_swaps_right "_law_swaps_right" = true)
    (p_law_swaps_right : PySem.W.keepIn K (.ref f_law_swaps_right) = true)
    (a_law_word : PySem.W.nsIn K mainGlobals "_law_word" = some (some (.ref f_law_word)))
    (l_law_word : K.lookup f_law_word = some ⟨oc_law_word, od_law_word, .func (PySem.W.fnOf "_law_word" "_law_word" (defArgs st_law_word) (defBody st_law_word) (defScope st_law_word) .none kV_law_word dc_law_word pm_law_word an_law_word cd_law_word ct_law_word), sl_law_word⟩)
    (q_law_word : PySem.W.codeIn K cd_law_word "_law_word" = true)
    (p_law_word : PySem.W.keepIn K (.ref f_law_word) = true)
    (a_law_refused : PySem.W.nsIn K mainGlobals "_law_refused" = some (some (.ref f_law_refused)))
    (l_law_refused : K.lookup f_law_refused = some ⟨oc_law_refused, od_law_refused, .func (PySem.W.fnOf "_law_refused" "_law_refused" (defArgs st_law_refused) (defBody st_law_refused) (defScope st_law_refused) .none kV_law_refused dc_law_refused pm_law_refused an_law_refused cd_law_refused ct_law_refused), sl_law_refused⟩)
    (q_law_refused : PySem.W.codeIn K cd_law_refused "_law_refused" = true)
    (p_law_refused : PySem.W.keepIn K (.ref f_law_refused) = true)
    (a_law : PySem.W.nsIn K mainGlobals "law" = some (some (.ref f_law)))
    (l_law : K.lookup f_law = some ⟨oc_law, od_law, .func (PySem.W.fnOf "law" "law" (defArgs st_law) (defBody st_law) (defScope st_law) .none kV_law dc_law pm_law an_law cd_law ct_law), sl_law⟩)
    (q_law : PySem.W.codeIn K cd_law "law" = true)
    (p_law : PySem.W.keepIn K (.ref f_law) = true)
    (a_c_BadBook : PySem.W.nsIn K mainGlobals "BadBook" = some (some (.ref c_BadBook)))
    (xL_BadBook : K.lookup c_BadBook = some (excClassObj nm_BadBook qn_BadBook c_BadBook ns_BadBook bs_BadBook [.ref b0_BadBook, .type "ValueError", .type "Exception", .type "BaseException", .type "object"] true sn_BadBook sb_BadBook ab_BadBook col_BadBook dd_BadBook m0_BadBook m1_BadBook m2_BadBook m3_BadBook m5_BadBook "ValueError.__new__"))
    (sa_BadBook : PySem.W.findIn K (.ref c_BadBook) "__setattr__" = some (some (.builtin "object.__setattr__")))
    (ga_BadBook : PySem.W.findIn K (.ref c_BadBook) "__getattribute__" = some (some (.builtin "BaseException.__getattribute__")))
    (gg_BadBook : PySem.W.findIn K (.ref c_BadBook) "__getattr__" = some none)
    (n_BadBook_word : PySem.W.findIn K (.ref c_BadBook) "word" = some none)
    (n_BadBook_place : PySem.W.findIn K (.ref c_BadBook) "place" = some none)
    (in_BadBook : PySem.W.findIn K (.ref c_BadBook) "__init__" = some (some (.ref i_BadBook)))
    (ti_BadBook : PySem.W.typeIn K (.ref i_BadBook) = some (.type "function"))
    (l_IBadBook : K.lookup i_BadBook = some ⟨oc_IBadBook, od_IBadBook, .func (PySem.W.fnOf "__init__" "BadBook.__init__" (defArgs sti_BadBook) (defBody sti_BadBook) (defScope sti_BadBook) .none kV_IBadBook dc_IBadBook pm_IBadBook an_IBadBook cd_IBadBook ct_IBadBook), sl_IBadBook⟩)
    (q_IBadBook : PySem.W.codeIn K cd_IBadBook "BadBook.__init__" = true)
    (p_IBadBook : PySem.W.keepIn K (.ref i_BadBook) = true)
    (kC_BadBook : PySem.W.keepIn K (.ref c_BadBook) = true)
    (eC_BadBook : PySem.W.subIn K (.ref c_BadBook) (.type "BaseException") = some true)
    (tC_BadBook : PySem.W.typeIn K (.ref c_BadBook) = some (.type "type"))
    (hC_BadBook : PySem.W.hasDictIn K c_BadBook = true)
    (iC_BadBook : PySem.W.isClsIn K c_BadBook = true)
    (a_c_BadNumber : PySem.W.nsIn K mainGlobals "BadNumber" = some (some (.ref c_BadNumber)))
    (xL_BadNumber : K.lookup c_BadNumber = some (excClassObj nm_BadNumber qn_BadNumber c_BadNumber ns_BadNumber bs_BadNumber [.ref b0_BadNumber, .type "ValueError", .type "Exception", .type "BaseException", .type "object"] true sn_BadNumber sb_BadNumber ab_BadNumber col_BadNumber dd_BadNumber m0_BadNumber m1_BadNumber m2_BadNumber m3_BadNumber m5_BadNumber "ValueError.__new__"))
    (sa_BadNumber : PySem.W.findIn K (.ref c_BadNumber) "__setattr__" = some (some (.builtin "object.__setattr__")))
    (ga_BadNumber : PySem.W.findIn K (.ref c_BadNumber) "__getattribute__" = some (some (.builtin "BaseException.__getattribute__")))
    (gg_BadNumber : PySem.W.findIn K (.ref c_BadNumber) "__getattr__" = some none)
    (n_BadNumber_word : PySem.W.findIn K (.ref c_BadNumber) "word" = some none)
    (in_BadNumber : PySem.W.findIn K (.ref c_BadNumber) "__init__" = some (some (.ref i_BadNumber)))
    (ti_BadNumber : PySem.W.typeIn K (.ref i_BadNumber) = some (.type "function"))
    (l_IBadNumber : K.lookup i_BadNumber = some ⟨oc_IBadNumber, od_IBadNumber, .func (PySem.W.fnOf "__init__" "BadNumber.__init__" (defArgs sti_BadNumber) (defBody sti_BadNumber) (defScope sti_BadNumber) .none kV_IBadNumber dc_IBadNumber pm_IBadNumber an_IBadNumber cd_IBadNumber ct_IBadNumber), sl_IBadNumber⟩)
    (q_IBadNumber : PySem.W.codeIn K cd_IBadNumber "BadNumber.__init__" = true)
    (p_IBadNumber : PySem.W.keepIn K (.ref i_BadNumber) = true)
    (kC_BadNumber : PySem.W.keepIn K (.ref c_BadNumber) = true)
    (eC_BadNumber : PySem.W.subIn K (.ref c_BadNumber) (.type "BaseException") = some true)
    (tC_BadNumber : PySem.W.typeIn K (.ref c_BadNumber) = some (.type "type"))
    (hC_BadNumber : PySem.W.hasDictIn K c_BadNumber = true)
    (iC_BadNumber : PySem.W.isClsIn K c_BadNumber = true)
    (a_c_RungsError : PySem.W.nsIn K mainGlobals "RungsError" = some (some (.ref c_RungsError)))
    (eC_RungsError : PySem.W.subIn K (.ref c_RungsError) (.type "BaseException") = some true)
    (tC_RungsError : PySem.W.typeIn K (.ref c_RungsError) = some (.type "type"))
    (iC_RungsError : PySem.W.isClsIn K c_RungsError = true)
    (a_c_TooMany : PySem.W.nsIn K mainGlobals "TooMany" = some (some (.ref c_TooMany)))
    (xL_TooMany : K.lookup c_TooMany = some (excClassObj nm_TooMany qn_TooMany c_TooMany ns_TooMany bs_TooMany [.ref b0_TooMany, .type "ValueError", .type "Exception", .type "BaseException", .type "object"] true sn_TooMany sb_TooMany ab_TooMany col_TooMany dd_TooMany m0_TooMany m1_TooMany m2_TooMany m3_TooMany m5_TooMany "ValueError.__new__"))
    (sa_TooMany : PySem.W.findIn K (.ref c_TooMany) "__setattr__" = some (some (.builtin "object.__setattr__")))
    (ga_TooMany : PySem.W.findIn K (.ref c_TooMany) "__getattribute__" = some (some (.builtin "BaseException.__getattribute__")))
    (gg_TooMany : PySem.W.findIn K (.ref c_TooMany) "__getattr__" = some none)
    (n_TooMany_limit : PySem.W.findIn K (.ref c_TooMany) "limit" = some none)
    (in_TooMany : PySem.W.findIn K (.ref c_TooMany) "__init__" = some (some (.ref i_TooMany)))
    (ti_TooMany : PySem.W.typeIn K (.ref i_TooMany) = some (.type "function"))
    (l_ITooMany : K.lookup i_TooMany = some ⟨oc_ITooMany, od_ITooMany, .func (PySem.W.fnOf "__init__" "TooMany.__init__" (defArgs sti_TooMany) (defBody sti_TooMany) (defScope sti_TooMany) .none kV_ITooMany dc_ITooMany pm_ITooMany an_ITooMany cd_ITooMany ct_ITooMany), sl_ITooMany⟩)
    (q_ITooMany : PySem.W.codeIn K cd_ITooMany "TooMany.__init__" = true)
    (p_ITooMany : PySem.W.keepIn K (.ref i_TooMany) = true)
    (kC_TooMany : PySem.W.keepIn K (.ref c_TooMany) = true)
    (eC_TooMany : PySem.W.subIn K (.ref c_TooMany) (.type "BaseException") = some true)
    (tC_TooMany : PySem.W.typeIn K (.ref c_TooMany) = some (.type "type"))
    (hC_TooMany : PySem.W.hasDictIn K c_TooMany = true)
    (iC_TooMany : PySem.W.isClsIn K c_TooMany = true)
    (s_BadBook_BadBook : PySem.W.subIn K (.ref c_BadBook) (.ref c_BadBook) = some true)
    (s_BadNumber_BadBook : PySem.W.subIn K (.ref c_BadNumber) (.ref c_BadBook) = some false)
    (s_RungsError_BadBook : PySem.W.subIn K (.ref c_RungsError) (.ref c_BadBook) = some false)
    (s_TooMany_BadBook : PySem.W.subIn K (.ref c_TooMany) (.ref c_BadBook) = some false)
    (s_BadBook_BadNumber : PySem.W.subIn K (.ref c_BadBook) (.ref c_BadNumber) = some false)
    (s_BadNumber_BadNumber : PySem.W.subIn K (.ref c_BadNumber) (.ref c_BadNumber) = some true)
    (s_RungsError_BadNumber : PySem.W.subIn K (.ref c_RungsError) (.ref c_BadNumber) = some false)
    (s_TooMany_BadNumber : PySem.W.subIn K (.ref c_TooMany) (.ref c_BadNumber) = some false)
    (s_BadBook_RungsError : PySem.W.subIn K (.ref c_BadBook) (.ref c_RungsError) = some true)
    (s_BadNumber_RungsError : PySem.W.subIn K (.ref c_BadNumber) (.ref c_RungsError) = some true)
    (s_RungsError_RungsError : PySem.W.subIn K (.ref c_RungsError) (.ref c_RungsError) = some true)
    (s_TooMany_RungsError : PySem.W.subIn K (.ref c_TooMany) (.ref c_RungsError) = some true)
    (s_BadBook_TooMany : PySem.W.subIn K (.ref c_BadBook) (.ref c_TooMany) = some false)
    (s_BadNumber_TooMany : PySem.W.subIn K (.ref c_BadNumber) (.ref c_TooMany) = some false)
    (s_RungsError_TooMany : PySem.W.subIn K (.ref c_RungsError) (.ref c_TooMany) = some false)
    (s_TooMany_TooMany : PySem.W.subIn K (.ref c_TooMany) (.ref c_TooMany) = some true) :
    ∃ fd : FuncData, (∀ (s : Shared) (v : Value), BindsTo s fd ⟨[v], []⟩ [("script", v)]) ∧ ∀ base : Heap, K.In base → base.Ns mainGlobals mg → FnOk l.prog w K mg base (L2.CX l.prog w) 10 fa fd ["script"] (spLaw K 63) := by
  have e := hfa.symm.trans (PySem.W.mg_of X G a_law)
  cases e
  have F_is_whole := fun_mk (st := st_is_whole) l_is_whole q_is_whole p_is_whole
  have F_whole_in := fun_mk (st := st_whole_in) l_whole_in q_whole_in p_whole_in
  have F_each_once := fun_mk (st := st_each_once) l_each_once q_each_once p_each_once
  have F_is_name := fun_mk (st := st_is_name) l_is_name q_is_name p_is_name
  have F_frame_rung_fits := fun_mk (st := st_frame_rung_fits) l_frame_rung_fits q_frame_rung_fits p_frame_rung_fits
  have F_check_frame := fun_mk (st := st_check_frame) l_check_frame q_check_frame p_check_frame
  have F_touching := fun_mk (st := st_touching) l_touching q_touching p_touching
  have F_directed := fun_mk (st := st_directed) l_directed q_directed p_directed
  have F_parted := fun_mk (st := st_parted) l_parted q_parted p_parted
  have F_check_two_orders := fun_mk (st := st_check_two_orders) l_check_two_orders q_check_two_orders p_check_two_orders
  have F_same_for_all := fun_mk (st := st_same_for_all) l_same_for_all q_same_for_all p_same_for_all
  have F_swaps := fun_mk (st := st_swaps) l_swaps q_swaps p_swaps
  have F_directions := fun_mk (st := st_directions) l_directions q_directions p_directions
  have F_law_numbers := fun_mk (st := st_law_numbers) l_law_numbers q_law_numbers p_law_numbers
  have F_law_draw := fun_mk (st := st_law_draw) l_law_draw q_law_draw p_law_draw
  have F_law_int := fun_mk (st := st_law_int) l_law_int q_law_int p_law_int
  have F_law_pool := fun_mk (st := st_law_pool) l_law_pool q_law_pool p_law_pool
  have F_law_frame := fun_mk (st := st_law_frame) l_law_frame q_law_frame p_law_frame
  have F_law_touch := fun_mk (st := st_law_touch) l_law_touch q_law_touch p_law_touch
  have F_law_order := fun_mk (st := st_law_order) l_law_order q_law_order p_law_order
  have F_law_led := fun_mk (st := st_law_led) l_law_led q_law_led p_law_led
  have F_law_unlike := fun_mk (st := st_law_unlike) l_law_unlike q_law_unlike p_law_unlike
  have F_law_directions := fun_mk (st := st_law_directions) l_law_directions q_law_directions p_law_directions
  have F_law_swaps_right := fun_mk (st := st_law_swaps_right) l_law_swaps_right q_law_swaps_right p_law_swaps_right
  have F_law_word := fun_mk (st := st_law_word) l_law_word q_law_word p_law_word
  have F_law_refused := fun_mk (st := st_law_refused) l_law_refused q_law_refused p_law_refused
  have F_law := fun_mk (st := st_law) l_law q_law p_law
  have F_IBadBook := fun_mk (st := sti_BadBook) l_IBadBook q_IBadBook p_IBadBook
  have F_IBadNumber := fun_mk (st := sti_BadNumber) l_IBadNumber q_IBadNumber p_IBadNumber
  have F_ITooMany := fun_mk (st := sti_TooMany) l_ITooMany q_ITooMany p_ITooMany
  let Z : Zs := ⟨f_is_whole, PySem.W.fnOf "_is_whole" "_is_whole" (defArgs st_is_whole) (defBody st_is_whole) (defScope st_is_whole) .none kV_is_whole dc_is_whole pm_is_whole an_is_whole cd_is_whole ct_is_whole, f_whole_in, PySem.W.fnOf "_whole_in" "_whole_in" (defArgs st_whole_in) (defBody st_whole_in) (defScope st_whole_in) .none kV_whole_in dc_whole_in pm_whole_in an_whole_in cd_whole_in ct_whole_in, f_each_once, PySem.W.fnOf "_each_once" "_each_once" (defArgs st_each_once) (defBody st_each_once) (defScope st_each_once) .none kV_each_once dc_each_once pm_each_once an_each_once cd_each_once ct_each_once, f_is_name, PySem.W.fnOf "is_name" "is_name" (defArgs st_is_name) (defBody st_is_name) (defScope st_is_name) .none kV_is_name dc_is_name pm_is_name an_is_name cd_is_name ct_is_name, f_frame_rung_fits, PySem.W.fnOf "_frame_rung_fits" "_frame_rung_fits" (defArgs st_frame_rung_fits) (defBody st_frame_rung_fits) (defScope st_frame_rung_fits) .none kV_frame_rung_fits dc_frame_rung_fits pm_frame_rung_fits an_frame_rung_fits cd_frame_rung_fits ct_frame_rung_fits, f_check_frame, PySem.W.fnOf "check_frame" "check_frame" (defArgs st_check_frame) (defBody st_check_frame) (defScope st_check_frame) .none kV_check_frame dc_check_frame pm_check_frame an_check_frame cd_check_frame ct_check_frame, f_touching, PySem.W.fnOf "touching" "touching" (defArgs st_touching) (defBody st_touching) (defScope st_touching) .none kV_touching dc_touching pm_touching an_touching cd_touching ct_touching, f_directed, PySem.W.fnOf "_directed" "_directed" (defArgs st_directed) (defBody st_directed) (defScope st_directed) .none kV_directed dc_directed pm_directed an_directed cd_directed ct_directed, f_parted, PySem.W.fnOf "_parted" "_parted" (defArgs st_parted) (defBody st_parted) (defScope st_parted) .none kV_parted dc_parted pm_parted an_parted cd_parted ct_parted, f_check_two_orders, PySem.W.fnOf "_check_two_orders" "_check_two_orders" (defArgs st_check_two_orders) (defBody st_check_two_orders) (defScope st_check_two_orders) .none kV_check_two_orders dc_check_two_orders pm_check_two_orders an_check_two_orders cd_check_two_orders ct_check_two_orders, f_same_for_all, PySem.W.fnOf "same_for_all" "same_for_all" (defArgs st_same_for_all) (defBody st_same_for_all) (defScope st_same_for_all) .none kV_same_for_all dc_same_for_all pm_same_for_all an_same_for_all cd_same_for_all ct_same_for_all, f_swaps, PySem.W.fnOf "swaps" "swaps" (defArgs st_swaps) (defBody st_swaps) (defScope st_swaps) .none kV_swaps dc_swaps pm_swaps an_swaps cd_swaps ct_swaps, f_directions, PySem.W.fnOf "directions" "directions" (defArgs st_directions) (defBody st_directions) (defScope st_directions) .none kV_directions dc_directions pm_directions an_directions cd_directions ct_directions, f_law_numbers, PySem.W.fnOf "_law_numbers" "_law_numbers" (defArgs st_law_numbers) (defBody st_law_numbers) (defScope st_law_numbers) .none kV_law_numbers dc_law_numbers pm_law_numbers an_law_numbers cd_law_numbers ct_law_numbers, f_law_draw, PySem.W.fnOf "_law_draw" "_law_draw" (defArgs st_law_draw) (defBody st_law_draw) (defScope st_law_draw) .none kV_law_draw dc_law_draw pm_law_draw an_law_draw cd_law_draw ct_law_draw, f_law_int, PySem.W.fnOf "_law_int" "_law_int" (defArgs st_law_int) (defBody st_law_int) (defScope st_law_int) .none kV_law_int dc_law_int pm_law_int an_law_int cd_law_int ct_law_int, f_law_pool, PySem.W.fnOf "_law_pool" "_law_pool" (defArgs st_law_pool) (defBody st_law_pool) (defScope st_law_pool) .none kV_law_pool dc_law_pool pm_law_pool an_law_pool cd_law_pool ct_law_pool, f_law_frame, PySem.W.fnOf "_law_frame" "_law_frame" (defArgs st_law_frame) (defBody st_law_frame) (defScope st_law_frame) .none kV_law_frame dc_law_frame pm_law_frame an_law_frame cd_law_frame ct_law_frame, f_law_touch, PySem.W.fnOf "_law_touch" "_law_touch" (defArgs st_law_touch) (defBody st_law_touch) (defScope st_law_touch) .none kV_law_touch dc_law_touch pm_law_touch an_law_touch cd_law_touch ct_law_touch, f_law_order, PySem.W.fnOf "_law_order" "_law_order" (defArgs st_law_order) (defBody st_law_order) (defScope st_law_order) .none kV_law_order dc_law_order pm_law_order an_law_order cd_law_order ct_law_order, f_law_led, PySem.W.fnOf "_law_led" "_law_led" (defArgs st_law_led) (defBody st_law_led) (defScope st_law_led) .none kV_law_led dc_law_led pm_law_led an_law_led cd_law_led ct_law_led, f_law_unlike, PySem.W.fnOf "_law_unlike" "_law_unlike" (defArgs st_law_unlike) (defBody st_law_unlike) (defScope st_law_unlike) .none kV_law_unlike dc_law_unlike pm_law_unlike an_law_unlike cd_law_unlike ct_law_unlike, f_law_directions, PySem.W.fnOf "_law_directions" "_law_directions" (defArgs st_law_directions) (defBody st_law_directions) (defScope st_law_directions) .none kV_law_directions dc_law_directions pm_law_directions an_law_directions cd_law_directions ct_law_directions, f_law_swaps_right, PySem.W.fnOf "_law_swaps_right" "_law_swaps_right" (defArgs st_law_swaps_right) (defBody st_law_swaps_right) (defScope st_law_swaps_right) .none kV_law_swaps_right dc_law_swaps_right pm_law_swaps_right an_law_swaps_right cd_law_swaps_right ct_law_swaps_right, f_law_word, PySem.W.fnOf "_law_word" "_law_word" (defArgs st_law_word) (defBody st_law_word) (defScope st_law_word) .none kV_law_word dc_law_word pm_law_word an_law_word cd_law_word ct_law_word, f_law_refused, PySem.W.fnOf "_law_refused" "_law_refused" (defArgs st_law_refused) (defBody st_law_refused) (defScope st_law_refused) .none kV_law_refused dc_law_refused pm_law_refused an_law_refused cd_law_refused ct_law_refused, fa, PySem.W.fnOf "law" "law" (defArgs st_law) (defBody st_law) (defScope st_law) .none kV_law dc_law pm_law an_law cd_law ct_law, c_BadBook, i_BadBook, PySem.W.fnOf "__init__" "BadBook.__init__" (defArgs sti_BadBook) (defBody sti_BadBook) (defScope sti_BadBook) .none kV_IBadBook dc_IBadBook pm_IBadBook an_IBadBook cd_IBadBook ct_IBadBook, c_BadNumber, i_BadNumber, PySem.W.fnOf "__init__" "BadNumber.__init__" (defArgs sti_BadNumber) (defBody sti_BadNumber) (defScope sti_BadNumber) .none kV_IBadNumber dc_IBadNumber pm_IBadNumber an_IBadNumber cd_IBadNumber ct_IBadNumber, c_RungsError, c_TooMany, i_TooMany, PySem.W.fnOf "__init__" "TooMany.__init__" (defArgs sti_TooMany) (defBody sti_TooMany) (defScope sti_TooMany) .none kV_ITooMany dc_ITooMany pm_ITooMany an_ITooMany cd_ITooMany ct_ITooMany, (fun nm => if nm = "BadBook" then c_BadBook else if nm = "BadNumber" then c_BadNumber else if nm = "RungsError" then c_RungsError else if nm = "TooMany" then c_TooMany else 0), t_KEPT_WORDS⟩
  have T : Txt K mg Z := {
    z_bool := PySem.W.mg_none_of X G z_bool,
    z_enumerate := PySem.W.mg_none_of X G z_enumerate,
    z_int := PySem.W.mg_none_of X G z_int,
    z_isinstance := PySem.W.mg_none_of X G z_isinstance,
    z_len := PySem.W.mg_none_of X G z_len,
    z_list := PySem.W.mg_none_of X G z_list,
    z_max := PySem.W.mg_none_of X G z_max,
    z_min := PySem.W.mg_none_of X G z_min,
    z_range := PySem.W.mg_none_of X G z_range,
    z_set := PySem.W.mg_none_of X G z_set,
    z_sorted := PySem.W.mg_none_of X G z_sorted,
    z_str := PySem.W.mg_none_of X G z_str,
    z_tuple := PySem.W.mg_none_of X G z_tuple,
    z_zip := PySem.W.mg_none_of X G z_zip,
    k_LETTERS := ⟨_, PySem.W.mg_of X G k_LETTERS, ⟨_, rfl⟩⟩,
    k_LONGEST := ⟨_, PySem.W.mg_of X G k_LONGEST, ⟨_, rfl⟩⟩,
    k_MOST_FRAMED := ⟨_, PySem.W.mg_of X G k_MOST_FRAMED, ⟨_, rfl⟩⟩,
    k_NAME_SIGNS := ⟨_, PySem.W.mg_of X G k_NAME_SIGNS, ⟨_, rfl⟩⟩,
    k_KEPT_WORDS := ⟨_, PySem.W.mg_of X G k_KEPT_WORDS, rfl⟩,
    t_KEPT_WORDS := fun H => sqT_K lt_KEPT_WORDS (Nat.le_of_ble_eq_true rfl) (.cons ⟨_, rfl⟩ (.cons ⟨_, rfl⟩ (.cons ⟨_, rfl⟩ (.cons ⟨_, rfl⟩ (.cons ⟨_, rfl⟩ .nil))))),
    d_is_whole := ⟨F_is_whole, PySem.W.mg_of X G a_is_whole, F_is_whole.binds (ps := ["value"]) fun _ _ _ _ _ _ us hl => match us, hl with | [_], _ => rfl⟩,
    d_whole_in := ⟨F_whole_in, PySem.W.mg_of X G a_whole_in, F_whole_in.binds (ps := ["value", "low", "high"]) fun _ _ _ _ _ _ us hl => match us, hl with | [_, _, _], _ => rfl⟩,
    d_each_once := ⟨F_each_once, PySem.W.mg_of X G a_each_once, F_each_once.binds (ps := ["order", "many"]) fun _ _ _ _ _ _ us hl => match us, hl with | [_, _], _ => rfl⟩,
    d_is_name := ⟨F_is_name, PySem.W.mg_of X G a_is_name, F_is_name.binds (ps := ["value"]) fun _ _ _ _ _ _ us hl => match us, hl with | [_], _ => rfl⟩,
    d_frame_rung_fits := ⟨F_frame_rung_fits, PySem.W.mg_of X G a_frame_rung_fits, F_frame_rung_fits.binds (ps := ["rung"]) fun _ _ _ _ _ _ us hl => match us, hl with | [_], _ => rfl⟩,
    d_check_frame := ⟨F_check_frame, PySem.W.mg_of X G a_check_frame, F_check_frame.binds (ps := ["frame"]) fun _ _ _ _ _ _ us hl => match us, hl with | [_], _ => rfl⟩,
    d_touching := ⟨F_touching, PySem.W.mg_of X G a_touching, F_touching.binds (ps := ["frame"]) fun _ _ _ _ _ _ us hl => match us, hl with | [_], _ => rfl⟩,
    d_directed := ⟨F_directed, PySem.W.mg_of X G a_directed, F_directed.binds (ps := ["frame", "order"]) fun _ _ _ _ _ _ us hl => match us, hl with | [_, _], _ => rfl⟩,
    d_parted := ⟨F_parted, PySem.W.mg_of X G a_parted, F_parted.binds (ps := ["frame", "order", "other"]) fun _ _ _ _ _ _ us hl => match us, hl with | [_, _, _], _ => rfl⟩,
    d_check_two_orders := ⟨F_check_two_orders, PySem.W.mg_of X G a_check_two_orders, F_check_two_orders.binds (ps := ["frame", "order", "other"]) fun _ _ _ _ _ _ us hl => match us, hl with | [_, _, _], _ => rfl⟩,
    d_same_for_all := ⟨F_same_for_all, PySem.W.mg_of X G a_same_for_all, F_same_for_all.binds (ps := ["frame", "order", "other"]) fun _ _ _ _ _ _ us hl => match us, hl with | [_, _, _], _ => rfl⟩,
    d_swaps := ⟨F_swaps, PySem.W.mg_of X G a_swaps, F_swaps.binds (ps := ["frame", "order", "other"]) fun _ _ _ _ _ _ us hl => match us, hl with | [_, _, _], _ => rfl⟩,
    d_directions := ⟨F_directions, PySem.W.mg_of X G a_directions, F_directions.binds (ps := ["frame", "order"]) fun _ _ _ _ _ _ us hl => match us, hl with | [_, _], _ => rfl⟩,
    d_law_numbers := ⟨F_law_numbers, PySem.W.mg_of X G a_law_numbers, F_law_numbers.binds (ps := ["script"]) fun _ _ _ _ _ _ us hl => match us, hl with | [_], _ => rfl⟩,
    d_law_draw := ⟨F_law_draw, PySem.W.mg_of X G a_law_draw, F_law_draw.binds (ps := ["numbers", "many"]) fun _ _ _ _ _ _ us hl => match us, hl with | [_, _], _ => rfl⟩,
    d_law_int := ⟨F_law_int, PySem.W.mg_of X G a_law_int, F_law_int.binds (ps := ["value"]) fun _ _ _ _ _ _ us hl => match us, hl with | [_], _ => rfl⟩,
    d_law_pool := ⟨F_law_pool, PySem.W.mg_of X G a_law_pool, F_law_pool.binds (ps := ["numbers", "total"]) fun _ _ _ _ _ _ us hl => match us, hl with | [_, _], _ => rfl⟩,
    d_law_frame := ⟨F_law_frame, PySem.W.mg_of X G a_law_frame, F_law_frame.binds (ps := ["numbers", "pool", "many"]) fun _ _ _ _ _ _ us hl => match us, hl with | [_, _, _], _ => rfl⟩,
    d_law_touch := ⟨F_law_touch, PySem.W.mg_of X G a_law_touch, F_law_touch.binds (ps := ["frame", "low", "high"]) fun _ _ _ _ _ _ us hl => match us, hl with | [_, _, _], _ => rfl⟩,
    d_law_order := ⟨F_law_order, PySem.W.mg_of X G a_law_order, F_law_order.binds (ps := ["numbers", "many"]) fun _ _ _ _ _ _ us hl => match us, hl with | [_, _], _ => rfl⟩,
    d_law_led := ⟨F_law_led, PySem.W.mg_of X G a_law_led, F_law_led.binds (ps := ["numbers", "frame", "order"]) fun _ _ _ _ _ _ us hl => match us, hl with | [_, _, _], _ => rfl⟩,
    d_law_unlike := ⟨F_law_unlike, PySem.W.mg_of X G a_law_unlike, F_law_unlike.binds (ps := ["order", "other"]) fun _ _ _ _ _ _ us hl => match us, hl with | [_, _], _ => rfl⟩,
    d_law_directions := ⟨F_law_directions, PySem.W.mg_of X G a_law_directions, F_law_directions.binds (ps := ["frame", "order"]) fun _ _ _ _ _ _ us hl => match us, hl with | [_, _], _ => rfl⟩,
    d_law_swaps_right := ⟨F_law_swaps_right, PySem.W.mg_of X G a_law_swaps_right, F_law_swaps_right.binds (ps := ["frame", "order", "other"]) fun _ _ _ _ _ _ us hl => match us, hl with | [_, _, _], _ => rfl⟩,
    d_law_word := ⟨F_law_word, PySem.W.mg_of X G a_law_word, F_law_word.binds (ps := ["turn", "frame", "order", "other"]) fun _ _ _ _ _ _ us hl => match us, hl with | [_, _, _, _], _ => rfl⟩,
    d_law_refused := ⟨F_law_refused, PySem.W.mg_of X G a_law_refused, F_law_refused.binds (ps := ["pool", "frame", "order"]) fun _ _ _ _ _ _ us hl => match us, hl with | [_, _, _], _ => rfl⟩,
    d_law := ⟨F_law, PySem.W.mg_of X G a_law, F_law.binds (ps := ["script"]) fun _ _ _ _ _ _ us hl => match us, hl with | [_], _ => rfl⟩,
    x_BadBook := ⟨⟨⟨nm_BadBook, qn_BadBook, ns_BadBook, bs_BadBook, _, sn_BadBook, sb_BadBook, ab_BadBook, col_BadBook, dd_BadBook, m0_BadBook, m1_BadBook, m2_BadBook, m3_BadBook, m5_BadBook, xL_BadBook, rfl⟩, sa_BadBook, eC_BadBook, tC_BadBook, kC_BadBook⟩, PySem.W.mg_of X G a_c_BadBook, in_BadBook, ti_BadBook, F_IBadBook, F_IBadBook.binds (ps := ["self", "word", "place"]) (fun _ _ _ _ _ _ us hl => match us, hl with | [_, _, _], _ => rfl), fun f hf => by simp only [List.mem_cons, List.not_mem_nil, or_false] at hf; rcases hf with rfl | rfl; exact n_BadBook_word; exact n_BadBook_place, ⟨ga_BadBook, gg_BadBook, eC_BadBook, hC_BadBook⟩⟩,
    ec_BadBook := (by show (if ("BadBook" : Str) = "BadBook" then c_BadBook else if ("BadBook" : Str) = "BadNumber" then c_BadNumber else if ("BadBook" : Str) = "RungsError" then c_RungsError else if ("BadBook" : Str) = "TooMany" then c_TooMany else 0) = c_BadBook; rw [if_pos rfl]),
    x_BadNumber := ⟨⟨⟨nm_BadNumber, qn_BadNumber, ns_BadNumber, bs_BadNumber, _, sn_BadNumber, sb_BadNumber, ab_BadNumber, col_BadNumber, dd_BadNumber, m0_BadNumber, m1_BadNumber, m2_BadNumber, m3_BadNumber, m5_BadNumber, xL_BadNumber, rfl⟩, sa_BadNumber, eC_BadNumber, tC_BadNumber, kC_BadNumber⟩, PySem.W.mg_of X G a_c_BadNumber, in_BadNumber, ti_BadNumber, F_IBadNumber, F_IBadNumber.binds (ps := ["self", "word"]) (fun _ _ _ _ _ _ us hl => match us, hl with | [_, _], _ => rfl), fun f hf => by simp only [List.mem_cons, List.not_mem_nil, or_false] at hf; subst hf; exact n_BadNumber_word, ⟨ga_BadNumber, gg_BadNumber, eC_BadNumber, hC_BadNumber⟩⟩,
    ec_BadNumber := (by show (if ("BadNumber" : Str) = "BadBook" then c_BadBook else if ("BadNumber" : Str) = "BadNumber" then c_BadNumber else if ("BadNumber" : Str) = "RungsError" then c_RungsError else if ("BadNumber" : Str) = "TooMany" then c_TooMany else 0) = c_BadNumber; rw [if_neg (show ¬ (("BadNumber" : Str) = "BadBook") by decide), if_pos rfl]),
    g_RungsError := PySem.W.mg_of X G a_c_RungsError,
    ec_RungsError := (by show (if ("RungsError" : Str) = "BadBook" then c_BadBook else if ("RungsError" : Str) = "BadNumber" then c_BadNumber else if ("RungsError" : Str) = "RungsError" then c_RungsError else if ("RungsError" : Str) = "TooMany" then c_TooMany else 0) = c_RungsError; rw [if_neg (show ¬ (("RungsError" : Str) = "BadBook") by decide), if_neg (show ¬ (("RungsError" : Str) = "BadNumber") by decide), if_pos rfl]),
    x_TooMany := ⟨⟨⟨nm_TooMany, qn_TooMany, ns_TooMany, bs_TooMany, _, sn_TooMany, sb_TooMany, ab_TooMany, col_TooMany, dd_TooMany, m0_TooMany, m1_TooMany, m2_TooMany, m3_TooMany, m5_TooMany, xL_TooMany, rfl⟩, sa_TooMany, eC_TooMany, tC_TooMany, kC_TooMany⟩, PySem.W.mg_of X G a_c_TooMany, in_TooMany, ti_TooMany, F_ITooMany, F_ITooMany.binds (ps := ["self", "limit"]) (fun _ _ _ _ _ _ us hl => match us, hl with | [_, _], _ => rfl), fun f hf => by simp only [List.mem_cons, List.not_mem_nil, or_false] at hf; subst hf; exact n_TooMany_limit, ⟨ga_TooMany, gg_TooMany, eC_TooMany, hC_TooMany⟩⟩,
    ec_TooMany := (by show (if ("TooMany" : Str) = "BadBook" then c_BadBook else if ("TooMany" : Str) = "BadNumber" then c_BadNumber else if ("TooMany" : Str) = "RungsError" then c_RungsError else if ("TooMany" : Str) = "TooMany" then c_TooMany else 0) = c_TooMany; rw [if_neg (show ¬ (("TooMany" : Str) = "BadBook") by decide), if_neg (show ¬ (("TooMany" : Str) = "BadNumber") by decide), if_neg (show ¬ (("TooMany" : Str) = "RungsError") by decide), if_pos rfl]),
    sub_BadBook := (fun nm r h => by
      unfold sub_BadBook at h
      show PySem.W.exmOne K (.ref (if nm = "BadBook" then c_BadBook else if nm = "BadNumber" then c_BadNumber else if nm = "RungsError" then c_RungsError else if nm = "TooMany" then c_TooMany else 0)) (.ref c_BadBook) = some r
      by_cases e_BadBook : nm = "BadBook"
      · rw [if_pos e_BadBook] at h ⊢; cases h; exact exm_of eC_BadBook iC_BadBook tC_BadBook s_BadBook_BadBook
      rw [if_neg e_BadBook] at h ⊢
      by_cases e_BadNumber : nm = "BadNumber"
      · rw [if_pos e_BadNumber] at h ⊢; cases h; exact exm_of eC_BadBook iC_BadBook tC_BadBook s_BadNumber_BadBook
      rw [if_neg e_BadNumber] at h ⊢
      by_cases e_RungsError : nm = "RungsError"
      · rw [if_pos e_RungsError] at h ⊢; cases h; exact exm_of eC_BadBook iC_BadBook tC_BadBook s_RungsError_BadBook
      rw [if_neg e_RungsError] at h ⊢
      by_cases e_TooMany : nm = "TooMany"
      · rw [if_pos e_TooMany] at h ⊢; cases h; exact exm_of eC_BadBook iC_BadBook tC_BadBook s_TooMany_BadBook
      rw [if_neg e_TooMany] at h ⊢
      cases h),
    sub_BadNumber := (fun nm r h => by
      unfold sub_BadNumber at h
      show PySem.W.exmOne K (.ref (if nm = "BadBook" then c_BadBook else if nm = "BadNumber" then c_BadNumber else if nm = "RungsError" then c_RungsError else if nm = "TooMany" then c_TooMany else 0)) (.ref c_BadNumber) = some r
      by_cases e_BadBook : nm = "BadBook"
      · rw [if_pos e_BadBook] at h ⊢; cases h; exact exm_of eC_BadNumber iC_BadNumber tC_BadNumber s_BadBook_BadNumber
      rw [if_neg e_BadBook] at h ⊢
      by_cases e_BadNumber : nm = "BadNumber"
      · rw [if_pos e_BadNumber] at h ⊢; cases h; exact exm_of eC_BadNumber iC_BadNumber tC_BadNumber s_BadNumber_BadNumber
      rw [if_neg e_BadNumber] at h ⊢
      by_cases e_RungsError : nm = "RungsError"
      · rw [if_pos e_RungsError] at h ⊢; cases h; exact exm_of eC_BadNumber iC_BadNumber tC_BadNumber s_RungsError_BadNumber
      rw [if_neg e_RungsError] at h ⊢
      by_cases e_TooMany : nm = "TooMany"
      · rw [if_pos e_TooMany] at h ⊢; cases h; exact exm_of eC_BadNumber iC_BadNumber tC_BadNumber s_TooMany_BadNumber
      rw [if_neg e_TooMany] at h ⊢
      cases h),
    sub_RungsError := (fun nm r h => by
      unfold sub_RungsError at h
      show PySem.W.exmOne K (.ref (if nm = "BadBook" then c_BadBook else if nm = "BadNumber" then c_BadNumber else if nm = "RungsError" then c_RungsError else if nm = "TooMany" then c_TooMany else 0)) (.ref c_RungsError) = some r
      by_cases e_BadBook : nm = "BadBook"
      · rw [if_pos e_BadBook] at h ⊢; cases h; exact exm_of eC_RungsError iC_RungsError tC_RungsError s_BadBook_RungsError
      rw [if_neg e_BadBook] at h ⊢
      by_cases e_BadNumber : nm = "BadNumber"
      · rw [if_pos e_BadNumber] at h ⊢; cases h; exact exm_of eC_RungsError iC_RungsError tC_RungsError s_BadNumber_RungsError
      rw [if_neg e_BadNumber] at h ⊢
      by_cases e_RungsError : nm = "RungsError"
      · rw [if_pos e_RungsError] at h ⊢; cases h; exact exm_of eC_RungsError iC_RungsError tC_RungsError s_RungsError_RungsError
      rw [if_neg e_RungsError] at h ⊢
      by_cases e_TooMany : nm = "TooMany"
      · rw [if_pos e_TooMany] at h ⊢; cases h; exact exm_of eC_RungsError iC_RungsError tC_RungsError s_TooMany_RungsError
      rw [if_neg e_TooMany] at h ⊢
      cases h),
    sub_TooMany := (fun nm r h => by
      unfold sub_TooMany at h
      show PySem.W.exmOne K (.ref (if nm = "BadBook" then c_BadBook else if nm = "BadNumber" then c_BadNumber else if nm = "RungsError" then c_RungsError else if nm = "TooMany" then c_TooMany else 0)) (.ref c_TooMany) = some r
      by_cases e_BadBook : nm = "BadBook"
      · rw [if_pos e_BadBook] at h ⊢; cases h; exact exm_of eC_TooMany iC_TooMany tC_TooMany s_BadBook_TooMany
      rw [if_neg e_BadBook] at h ⊢
      by_cases e_BadNumber : nm = "BadNumber"
      · rw [if_pos e_BadNumber] at h ⊢; cases h; exact exm_of eC_TooMany iC_TooMany tC_TooMany s_BadNumber_TooMany
      rw [if_neg e_BadNumber] at h ⊢
      by_cases e_RungsError : nm = "RungsError"
      · rw [if_pos e_RungsError] at h ⊢; cases h; exact exm_of eC_TooMany iC_TooMany tC_TooMany s_RungsError_TooMany
      rw [if_neg e_RungsError] at h ⊢
      by_cases e_TooMany : nm = "TooMany"
      · rw [if_pos e_TooMany] at h ⊢; cases h; exact exm_of eC_TooMany iC_TooMany tC_TooMany s_TooMany_TooMany
      rw [if_neg e_TooMany] at h ⊢
      cases h) }
  exact ⟨PySem.W.fnOf "law" "law" (defArgs st_law) (defBody st_law) (defScope st_law) .none kV_law dc_law pm_law an_law cd_law ct_law, fun s v => .of_eq rfl, fun base _ _ => (ok_law (P := l.prog) (w := w) (base := base) T).imp fun vs H Q E q => law_sp hlaw q⟩
theorem walk (hlaw : ∀ ns : List Int, ns.length ≤ 63 → f_law ns = .nx true) {l : PySem.W.OpenLaw} {q : Program} {loose : List Str} {XP : (Str → Option Value) → Heap → Prop} {YP : World → Heap → Prop} {d : DefRec} {K : Params → PySem.W.Frag} (hn : l.most = some 63) (hdf : d.params.defaults = [])
    (hY : ∀ (w : World) (h : Heap), YP w h → (K w.params).In h)
    (F : ∀ (w : World) (mg : Str → Option Value) (fa : Addr) (h : Heap), (K w.params).In h → h.Ns mainGlobals mg → mg d.name = some (.ref fa) →
      ∃ fd : FuncData, (∀ (s : Shared) (u : Value), BindsTo s fd ⟨[u], []⟩ [("script", u)]) ∧ ∀ base : Heap, (K w.params).In base → base.Ns mainGlobals mg → FnOk l.prog w (K w.params) mg base (L2.CX l.prog w) 10 fa fd ["script"] (spLaw (K w.params) 63)) :
    PySem.W.WalkO q loose XP YP l.row.toRowW d [] (fun f vs => PySem.call f vs) :=
  L2.walk_of (n := 63) (k := 10) (x := "script") (CX := fun w => L2.CX l.prog w) (sp := fun w => spLaw (K w.params) 63) hn (by decide) hdf ⟨rfl, by decide, by decide⟩ hY F (fun _ _ a ns hl _ hS => ⟨a, ns, rfl, hS, hl, fun _ => rfl⟩) fun _ _ _ _ _ h => by
    obtain ⟨_, _, _, _, _, _, _, _, _, _, _, _, z⟩ := h
    exact z.elim
end Lw
open PySem PySem.W PyProof.Rows
set_option maxRecDepth 100000 in
set_option maxHeartbeats 0 in
theorem PySem.Challenge.cw_guardrungs_k07_least_swaps_holds : PySem.Challenge.rw_guardrungs_k07_least_swaps.Holds := by
  w_on; o_law; k_head; (case hw => w_witness2)
  k_fill
  refine Lw.walk Lw.law_true (l := PySem.Challenge.rw_guardrungs_k07_least_swaps) rfl rfl (fun w h Y => PySem.W.kIn_of Y) ?F
  case F =>
    intro w mg fa h KX G hmg
    refine' Lw.all_mk Lw.law_true KX G hmg ?z_bool ?z_enumerate ?z_int ?z_isinstance ?z_len ?z_list ?z_max ?z_min ?z_range ?z_set ?z_sorted ?z_str ?z_tuple ?z_zip ?k_LETTERS ?k_LONGEST ?k_MOST_FRAMED ?k_NAME_SIGNS ?k_KEPT_WORDS ?lt_KEPT_WORDS ?a_is_whole ?l_is_whole ?q_is_whole ?p_is_whole ?a_whole_in ?l_whole_in ?q_whole_in ?p_whole_in ?a_each_once ?l_each_once ?q_each_once ?p_each_once ?a_is_name ?l_is_name ?q_is_name ?p_is_name ?a_frame_rung_fits ?l_frame_rung_fits ?q_frame_rung_fits ?p_frame_rung_fits ?a_check_frame ?l_check_frame ?q_check_frame ?p_check_frame ?a_touching ?l_touching ?q_touching ?p_touching ?a_directed ?l_directed ?q_directed ?p_directed ?a_parted ?l_parted ?q_parted ?p_parted ?a_check_two_orders ?l_check_two_orders ?q_check_two_orders ?p_check_two_orders ?a_same_for_all ?l_same_for_all ?q_same_for_all ?p_same_for_all ?a_swaps ?l_swaps ?q_swaps ?p_swaps ?a_directions ?l_directions ?q_directions ?p_directions ?a_law_numbers ?l_law_numbers ?q_law_numbers ?p_law_numbers ?a_law_draw ?l_law_draw ?q_law_draw ?p_law_draw ?a_law_int ?l_law_int ?q_law_int ?p_law_int ?a_law_pool ?l_law_pool ?q_law_pool ?p_law_pool ?a_law_frame ?l_law_frame ?q_law_frame ?p_law_frame ?a_law_touch ?l_law_touch ?q_law_touch ?p_law_touch ?a_law_order ?l_law_order ?q_law_order ?p_law_order ?a_law_led ?l_law_led ?q_law_led ?p_law_led ?a_law_unlike ?l_law_unlike ?q_law_unlike ?p_law_unlike ?a_law_directions ?l_law_directions ?q_law_directions ?p_law_directions ?a_law_swaps_right ?l_law_swaps_right ?q_law_swaps_right ?p_law_swaps_right ?a_law_word ?l_law_word ?q_law_word ?p_law_word ?a_law_refused ?l_law_refused ?q_law_refused ?p_law_refused ?a_law ?l_law ?q_law ?p_law ?a_c_BadBook ?xL_BadBook ?sa_BadBook ?ga_BadBook ?gg_BadBook ?n_BadBook_word ?n_BadBook_place ?in_BadBook ?ti_BadBook ?l_IBadBook ?q_IBadBook ?p_IBadBook ?kC_BadBook ?eC_BadBook ?tC_BadBook ?hC_BadBook ?iC_BadBook ?a_c_BadNumber ?xL_BadNumber ?sa_BadNumber ?ga_BadNumber ?gg_BadNumber ?n_BadNumber_word ?in_BadNumber ?ti_BadNumber ?l_IBadNumber ?q_IBadNumber ?p_IBadNumber ?kC_BadNumber ?eC_BadNumber ?tC_BadNumber ?hC_BadNumber ?iC_BadNumber ?a_c_RungsError ?eC_RungsError ?tC_RungsError ?iC_RungsError ?a_c_TooMany ?xL_TooMany ?sa_TooMany ?ga_TooMany ?gg_TooMany ?n_TooMany_limit ?in_TooMany ?ti_TooMany ?l_ITooMany ?q_ITooMany ?p_ITooMany ?kC_TooMany ?eC_TooMany ?tC_TooMany ?hC_TooMany ?iC_TooMany ?s_BadBook_BadBook ?s_BadNumber_BadBook ?s_RungsError_BadBook ?s_TooMany_BadBook ?s_BadBook_BadNumber ?s_BadNumber_BadNumber ?s_RungsError_BadNumber ?s_TooMany_BadNumber ?s_BadBook_RungsError ?s_BadNumber_RungsError ?s_RungsError_RungsError ?s_TooMany_RungsError ?s_BadBook_TooMany ?s_BadNumber_TooMany ?s_RungsError_TooMany ?s_TooMany_TooMany
    (case z_bool => k_is)
    (case z_enumerate => k_is)
    (case z_int => k_is)
    (case z_isinstance => k_is)
    (case z_len => k_is)
    (case z_list => k_is)
    (case z_max => k_is)
    (case z_min => k_is)
    (case z_range => k_is)
    (case z_set => k_is)
    (case z_sorted => k_is)
    (case z_str => k_is)
    (case z_tuple => k_is)
    (case z_zip => k_is)
    (case k_LETTERS => k_is)
    (case k_LONGEST => k_is)
    (case k_MOST_FRAMED => k_is)
    (case k_NAME_SIGNS => k_is)
    (case k_KEPT_WORDS => k_is)
    (case lt_KEPT_WORDS => k_is)
    (case a_is_whole => k_is)
    (case l_is_whole => k_is)
    (case q_is_whole => k_is)
    (case p_is_whole => k_is)
    (case a_whole_in => k_is)
    (case l_whole_in => k_is)
    (case q_whole_in => k_is)
    (case p_whole_in => k_is)
    (case a_each_once => k_is)
    (case l_each_once => k_is)
    (case q_each_once => k_is)
    (case p_each_once => k_is)
    (case a_is_name => k_is)
    (case l_is_name => k_is)
    (case q_is_name => k_is)
    (case p_is_name => k_is)
    (case a_frame_rung_fits => k_is)
    (case l_frame_rung_fits => k_is)
    (case q_frame_rung_fits => k_is)
    (case p_frame_rung_fits => k_is)
    (case a_check_frame => k_is)
    (case l_check_frame => k_is)
    (case q_check_frame => k_is)
    (case p_check_frame => k_is)
    (case a_touching => k_is)
    (case l_touching => k_is)
    (case q_touching => k_is)
    (case p_touching => k_is)
    (case a_directed => k_is)
    (case l_directed => k_is)
    (case q_directed => k_is)
    (case p_directed => k_is)
    (case a_parted => k_is)
    (case l_parted => k_is)
    (case q_parted => k_is)
    (case p_parted => k_is)
    (case a_check_two_orders => k_is)
    (case l_check_two_orders => k_is)
    (case q_check_two_orders => k_is)
    (case p_check_two_orders => k_is)
    (case a_same_for_all => k_is)
    (case l_same_for_all => k_is)
    (case q_same_for_all => k_is)
    (case p_same_for_all => k_is)
    (case a_swaps => k_is)
    (case l_swaps => k_is)
    (case q_swaps => k_is)
    (case p_swaps => k_is)
    (case a_directions => k_is)
    (case l_directions => k_is)
    (case q_directions => k_is)
    (case p_directions => k_is)
    (case a_law_numbers => k_is)
    (case l_law_numbers => k_is)
    (case q_law_numbers => k_is)
    (case p_law_numbers => k_is)
    (case a_law_draw => k_is)
    (case l_law_draw => k_is)
    (case q_law_draw => k_is)
    (case p_law_draw => k_is)
    (case a_law_int => k_is)
    (case l_law_int => k_is)
    (case q_law_int => k_is)
    (case p_law_int => k_is)
    (case a_law_pool => k_is)
    (case l_law_pool => k_is)
    (case q_law_pool => k_is)
    (case p_law_pool => k_is)
    (case a_law_frame => k_is)
    (case l_law_frame => k_is)
    (case q_law_frame => k_is)
    (case p_law_frame => k_is)
    (case a_law_touch => k_is)
    (case l_law_touch => k_is)
    (case q_law_touch => k_is)
    (case p_law_touch => k_is)
    (case a_law_order => k_is)
    (case l_law_order => k_is)
    (case q_law_order => k_is)
    (case p_law_order => k_is)
    (case a_law_led => k_is)
    (case l_law_led => k_is)
    (case q_law_led => k_is)
    (case p_law_led => k_is)
    (case a_law_unlike => k_is)
    (case l_law_unlike => k_is)
    (case q_law_unlike => k_is)
    (case p_law_unlike => k_is)
    (case a_law_directions => k_is)
    (case l_law_directions => k_is)
    (case q_law_directions => k_is)
    (case p_law_directions => k_is)
    (case a_law_swaps_right => k_is)
    (case l_law_swaps_right => k_is)
    (case q_law_swaps_right => k_is)
    (case p_law_swaps_right => k_is)
    (case a_law_word => k_is)
    (case l_law_word => k_is)
    (case q_law_word => k_is)
    (case p_law_word => k_is)
    (case a_law_refused => k_is)
    (case l_law_refused => k_is)
    (case q_law_refused => k_is)
    (case p_law_refused => k_is)
    (case a_law => k_is)
    (case l_law => k_is)
    (case q_law => k_is)
    (case p_law => k_is)
    (case a_c_BadBook => k_is)
    (case xL_BadBook => k_is)
    (case sa_BadBook => k_is)
    (case ga_BadBook => k_is)
    (case gg_BadBook => k_is)
    (case n_BadBook_word => k_is)
    (case n_BadBook_place => k_is)
    (case in_BadBook => k_is)
    (case ti_BadBook => k_is)
    (case l_IBadBook => k_is)
    (case q_IBadBook => k_is)
    (case p_IBadBook => k_is)
    (case kC_BadBook => k_is)
    (case eC_BadBook => k_is)
    (case tC_BadBook => k_is)
    (case hC_BadBook => k_is)
    (case iC_BadBook => k_is)
    (case a_c_BadNumber => k_is)
    (case xL_BadNumber => k_is)
    (case sa_BadNumber => k_is)
    (case ga_BadNumber => k_is)
    (case gg_BadNumber => k_is)
    (case n_BadNumber_word => k_is)
    (case in_BadNumber => k_is)
    (case ti_BadNumber => k_is)
    (case l_IBadNumber => k_is)
    (case q_IBadNumber => k_is)
    (case p_IBadNumber => k_is)
    (case kC_BadNumber => k_is)
    (case eC_BadNumber => k_is)
    (case tC_BadNumber => k_is)
    (case hC_BadNumber => k_is)
    (case iC_BadNumber => k_is)
    (case a_c_RungsError => k_is)
    (case eC_RungsError => k_is)
    (case tC_RungsError => k_is)
    (case iC_RungsError => k_is)
    (case a_c_TooMany => k_is)
    (case xL_TooMany => k_is)
    (case sa_TooMany => k_is)
    (case ga_TooMany => k_is)
    (case gg_TooMany => k_is)
    (case n_TooMany_limit => k_is)
    (case in_TooMany => k_is)
    (case ti_TooMany => k_is)
    (case l_ITooMany => k_is)
    (case q_ITooMany => k_is)
    (case p_ITooMany => k_is)
    (case kC_TooMany => k_is)
    (case eC_TooMany => k_is)
    (case tC_TooMany => k_is)
    (case hC_TooMany => k_is)
    (case iC_TooMany => k_is)
    (case s_BadBook_BadBook => k_is)
    (case s_BadNumber_BadBook => k_is)
    (case s_RungsError_BadBook => k_is)
    (case s_TooMany_BadBook => k_is)
    (case s_BadBook_BadNumber => k_is)
    (case s_BadNumber_BadNumber => k_is)
    (case s_RungsError_BadNumber => k_is)
    (case s_TooMany_BadNumber => k_is)
    (case s_BadBook_RungsError => k_is)
    (case s_BadNumber_RungsError => k_is)
    (case s_RungsError_RungsError => k_is)
    (case s_TooMany_RungsError => k_is)
    (case s_BadBook_TooMany => k_is)
    (case s_BadNumber_TooMany => k_is)
    (case s_RungsError_TooMany => k_is)
    (case s_TooMany_TooMany => k_is)
#print axioms PySem.Challenge.cw_guardrungs_k07_least_swaps_holds

