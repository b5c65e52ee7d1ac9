import PyProof.Rows.All
import Wide.All
import OpenK.AllK
import Wide.FinOn
import HandS.ForMost
import HandS.Wide
import HandS.TupAny
import HandS.Deep
import HandS.WordsDict
import HandS.Conv
import HandS.Style
import HandS.IsInst
import HandS.DictComp
import HandS.SetFor
import HandS.TupSets
import HandS.SortInts
import HandS.Strs
import HandS.Ends
import HandS.EndBits
import PySem.Challenge.RW_spanslocked_k40_journals_line_by_line
set_option Elab.async false
set_option linter.all false
set_option maxRecDepth 100000
set_option maxHeartbeats 4000000
/-! Pv0: plain values, how they lie in the heap, the state of a frame by plain values, frames. -/
namespace Pv
open PySem PySem.Spec PyProof.Rows L2

/-- plain values -/
inductive PV where
  | non | bl (b : Bool) | int (i : Int) | str (s : Str)
  | tup (xs : List PV) | lst (xs : List PV) | dct (kvs : List (Key × PV)) | dtt (kvs : List (List Key × PV))

def isM : PV → Bool
  | .lst _ => true
  | .dct _ => true
  | .dtt _ => true
  | _ => false

mutual
inductive Rep (F : Hp) : PV → V → Prop
  | non : Rep F .non .non
  | bl (b : Bool) : Rep F (.bl b) (.bl b)
  | int (i : Int) : Rep F (.int i) (.int i)
  | str (x : Str) : Rep F (.str x) (.str x)
  | ref {a : Addr} {o : HO} {p : PV} : F a = some o → Cnt F p o → Rep F p (.ref a)
inductive Cnt (F : Hp) : PV → HO → Prop
  | tup {ps : List PV} {vs : List V} : Reps F ps vs → ps.length ≤ sizeLine → Cnt F (.tup ps) (.tup vs)
  | lst {ps : List PV} {vs : List V} : Reps F ps vs → ps.length ≤ sizeLine → Cnt F (.lst ps) (.lst vs)
  | dct {kvs : List (Key × PV)} {vs : List (Key × V)} : RepK F kvs vs → kvs.length ≤ sizeLine → Cnt F (.dct kvs) (.dK vs)
  | dtt {kvs : List (List Key × PV)} {vs : List (List Key × V)} : RepT F kvs vs → kvs.length ≤ sizeLine → Cnt F (.dtt kvs) (.dT vs)
inductive Reps (F : Hp) : List PV → List V → Prop
  | nil : Reps F [] []
  | cons {p : PV} {ps : List PV} {v : V} {vs : List V} : Rep F p v → Reps F ps vs → Reps F (p :: ps) (v :: vs)
inductive RepK (F : Hp) : List (Key × PV) → List (Key × V) → Prop
  | nil : RepK F [] []
  | cons {k : Key} {p : PV} {ps : List (Key × PV)} {v : V} {vs : List (Key × V)} : Rep F p v → RepK F ps vs → RepK F ((k, p) :: ps) ((k, v) :: vs)
inductive RepT (F : Hp) : List (List Key × PV) → List (List Key × V) → Prop
  | nil : RepT F [] []
  | cons {k : List Key} {p : PV} {ps : List (List Key × PV)} {v : V} {vs : List (List Key × V)} : Rep F p v → RepT F ps vs → RepT F ((k, p) :: ps) ((k, v) :: vs)
end

/-- all that is told in F is told in F' -/
def Ex (F F' : Hp) : Prop := ∀ a o, F a = some o → F' a = some o
theorem Ex.refl (F : Hp) : Ex F F := fun _ _ h => h
theorem Ex.trans {F F1 F2 : Hp} (a : Ex F F1) (b : Ex F1 F2) : Ex F F2 := fun c o h => b c o (a c o h)
theorem Ex.new {F : Hp} {p : Addr} {o : HO} (h : F p = none) : Ex F (upd F p o) := fun a u e => by
  rw [upd_ne (ne_of_none e h)]; exact e

mutual
theorem Rep.mono {F F' : Hp} (e : Ex F F') : ∀ {p : PV} {v : V}, Rep F p v → Rep F' p v
  | _, _, .non => .non
  | _, _, .bl b => .bl b
  | _, _, .int i => .int i
  | _, _, .str x => .str x
  | _, _, .ref h c => .ref (e _ _ h) (Cnt.mono e c)
theorem Cnt.mono {F F' : Hp} (e : Ex F F') : ∀ {p : PV} {o : HO}, Cnt F p o → Cnt F' p o
  | _, _, .tup r z => .tup (Reps.mono e r) z
  | _, _, .lst r z => .lst (Reps.mono e r) z
  | _, _, .dct r z => .dct (RepK.mono e r) z
  | _, _, .dtt r z => .dtt (RepT.mono e r) z
theorem Reps.mono {F F' : Hp} (e : Ex F F') : ∀ {ps : List PV} {vs : List V}, Reps F ps vs → Reps F' ps vs
  | _, _, .nil => .nil
  | _, _, .cons r t => .cons (Rep.mono e r) (Reps.mono e t)
theorem RepK.mono {F F' : Hp} (e : Ex F F') : ∀ {ps : List (Key × PV)} {vs : List (Key × V)}, RepK F ps vs → RepK F' ps vs
  | _, _, .nil => .nil
  | _, _, .cons r t => .cons (Rep.mono e r) (RepK.mono e t)
theorem RepT.mono {F F' : Hp} (e : Ex F F') : ∀ {ps : List (List Key × PV)} {vs : List (List Key × V)}, RepT F ps vs → RepT F' ps vs
  | _, _, .nil => .nil
  | _, _, .cons r t => .cons (Rep.mono e r) (RepT.mono e t)
end

theorem Reps.length {F : Hp} : ∀ {ps : List PV} {vs : List V}, Reps F ps vs → ps.length = vs.length
  | _, _, .nil => rfl
  | _, _, .cons _ t => congrArg (· + 1) (Reps.length t)
theorem RepK.length {F : Hp} : ∀ {ps : List (Key × PV)} {vs : List (Key × V)}, RepK F ps vs → ps.length = vs.length
  | _, _, .nil => rfl
  | _, _, .cons _ t => congrArg (· + 1) (RepK.length t)
theorem RepT.length {F : Hp} : ∀ {ps : List (List Key × PV)} {vs : List (List Key × V)}, RepT F ps vs → ps.length = vs.length
  | _, _, .nil => rfl
  | _, _, .cons _ t => congrArg (· + 1) (RepT.length t)
theorem Reps.get {F : Hp} : ∀ {ps : List PV} {vs : List V} {i : Nat} {p : PV}, Reps F ps vs → ps[i]? = some p → ∃ v, vs[i]? = some v ∧ Rep F p v
  | _, _, _, _, .nil, e => by simp at e
  | _, _, 0, _, .cons r _, e => by simp at e; subst e; exact ⟨_, rfl, r⟩
  | _, _, i + 1, p, .cons _ t, e => by
    obtain ⟨u, h1, h2⟩ := Reps.get (i := i) (p := p) t (by simpa using e)
    exact ⟨u, by simpa using h1, h2⟩
theorem Reps.getV {F : Hp} : ∀ {ps : List PV} {vs : List V} {i : Nat} {v : V}, Reps F ps vs → vs[i]? = some v → ∃ p, ps[i]? = some p ∧ Rep F p v
  | _, _, _, _, .nil, e => by simp at e
  | _, _, 0, _, .cons r _, e => by simp at e; subst e; exact ⟨_, rfl, r⟩
  | _, _, i + 1, v, .cons _ t, e => by
    obtain ⟨u, h1, h2⟩ := Reps.getV (i := i) (v := v) t (by simpa using e)
    exact ⟨u, by simpa using h1, h2⟩
theorem Reps.set {F : Hp} {p : PV} {v : V} (r : Rep F p v) : ∀ {ps : List PV} {vs : List V} (i : Nat), Reps F ps vs → Reps F (ps.set i p) (vs.set i v)
  | _, _, _, .nil => .nil
  | _, _, 0, .cons _ t => .cons r t
  | _, _, i + 1, .cons q t => .cons q (Reps.set r i t)
theorem Reps.append {F : Hp} : ∀ {ps qs : List PV} {vs us : List V}, Reps F ps vs → Reps F qs us → Reps F (ps ++ qs) (vs ++ us)
  | _, _, _, _, .nil, s => s
  | _, _, _, _, .cons r t, s => .cons r (Reps.append t s)
theorem Reps.take {F : Hp} : ∀ {ps : List PV} {vs : List V} (n : Nat), Reps F ps vs → Reps F (ps.take n) (vs.take n)
  | _, _, 0, _ => .nil
  | _, _, _ + 1, .nil => .nil
  | _, _, n + 1, .cons r t => .cons r (Reps.take n t)
theorem Reps.drop {F : Hp} : ∀ {ps : List PV} {vs : List V} (n : Nat), Reps F ps vs → Reps F (ps.drop n) (vs.drop n)
  | _, _, 0, r => r
  | _, _, _ + 1, .nil => .nil
  | _, _, n + 1, .cons _ t => Reps.drop n t
theorem Reps.one {F : Hp} {p : PV} {v : V} (r : Rep F p v) : Reps F [p] [v] := .cons r .nil
theorem Reps.reverse {F : Hp} : ∀ {ps : List PV} {vs : List V}, Reps F ps vs → Reps F ps.reverse vs.reverse
  | _, _, .nil => .nil
  | _, _, .cons r t => by
    rw [List.reverse_cons, List.reverse_cons]
    exact (Reps.reverse t).append (Reps.one r)
theorem Reps.dropLast {F : Hp} {ps : List PV} {vs : List V} (r : Reps F ps vs) : Reps F ps.dropLast vs.dropLast := by
  rw [List.dropLast_eq_take, List.dropLast_eq_take, r.length]
  exact r.take _
theorem Reps.eraseIdx {F : Hp} : ∀ {ps : List PV} {vs : List V} (i : Nat), Reps F ps vs → Reps F (ps.eraseIdx i) (vs.eraseIdx i)
  | _, _, _, .nil => .nil
  | _, _, 0, .cons _ t => t
  | _, _, i + 1, .cons r t => .cons r (Reps.eraseIdx i t)

/-- the known part is a part of the heap (a dict may be locked there) -/
def isD : HO → Bool
  | .dK _ => true
  | .dT _ => true
  | _ => false
def Sub (F H : Hp) : Prop := ∀ a o, F a = some o → H a = some o ∨ (isD o = true ∧ ∃ b, H a = some (.frz b o))
theorem Sub.rd {F H : Hp} (s : Sub F H) {a : Addr} {o : HO} (e : F a = some o) : Rd H a o := by
  rcases s a o e with h | ⟨_, b, h⟩
  · exact .inl h
  · exact .inr ⟨b, h⟩
theorem Sub.nil {F H : Hp} (s : Sub F H) {a : Addr} (e : H a = none) : F a = none := by
  cases q : F a with
  | none => rfl
  | some o => rcases s a o q with h | ⟨_, b, h⟩ <;> (rw [e] at h; cases h)
theorem Sub.plain {F H : Hp} (s : Sub F H) {a : Addr} {o : HO} (e : F a = some o) (d : isD o = false) : H a = some o := by
  rcases s a o e with h | ⟨h, _⟩
  · exact h
  · rw [d] at h; cases h

abbrev Env := List (Option PV)

/-- what a name's slot bears: known for good; read alone for now; owned; owned by the caller (a parameter that is changed) -/
inductive Kd where
  | fr | lk | ow | io
  deriving DecidableEq
def Kd.own : Kd → Bool
  | .ow => true
  | .io => true
  | _ => false
abbrev kd (O : List Kd) (i : Nat) : Kd := O.getD i .fr

def Own (H F : Hp) (p : PV) (v : V) : Prop := ∃ a o, v = .ref a ∧ H a = some o ∧ F a = none ∧ Cnt F p o
def Lok (H F : Hp) (p : PV) (v : V) : Prop := ∃ a o, v = .ref a ∧ Rd H a o ∧ Cnt F p o
def SlotOk (k : Kd) (p : PV) (v : V) (H F : Hp) : Prop :=
  match k with
  | .fr => Rep F p v
  | .lk => Rep F p v ∨ (isM p = true ∧ Lok H F p v)
  | _ => (isM p = false ∧ Rep F p v) ∨ (isM p = true ∧ Own H F p v)

/-- the address that slot i owns -/
def OwnA (O : List Kd) (ρ : Env) (σ : L2.St) (i : Nat) (a : Addr) : Prop :=
  (kd O i).own = true ∧ (∃ p, ρ[i]? = some (some p) ∧ isM p = true) ∧ σ[i]? = some (some (.ref a))
def OA (O : List Kd) (ρ : Env) (σ : L2.St) : Addr → Prop := fun a => ∃ i, OwnA O ρ σ i a

structure StOk (O : List Kd) (ρ : Env) (σ : L2.St) (H F : Hp) : Prop where
  sub : Sub F H
  len : ρ.length = σ.length
  slot : ∀ i p, ρ[i]? = some (some p) → ∃ v, σ[i]? = some (some v) ∧ SlotOk (kd O i) p v H F
  dis : ∀ i j a p, i ≠ j → OwnA O ρ σ i a → kd O j ≠ .fr → ρ[j]? = some (some p) → σ[j]? = some (some (.ref a)) → False

/-- what happened to the heap, seen by who owned A -/
structure Frm (A : Addr → Prop) (H F H' F' : Hp) (A' : Addr → Prop) : Prop where
  ex : Ex F F'
  keep : ∀ b o, H b = some o → ¬ A b → H' b = some o
  asub : ∀ b, A' b → A b ∨ H b = none
  fgr : ∀ b, F' b ≠ none → F b ≠ none ∨ A b ∨ H b = none
  nv : ∀ b, H b ≠ none → H' b ≠ none
theorem Frm.refl (A : Addr → Prop) (H F : Hp) : Frm A H F H F A := ⟨Ex.refl F, fun _ _ e _ => e, fun _ a => .inl a, fun _ a => .inl a, fun _ a => a⟩
theorem Frm.trans {A A1 A2 : Addr → Prop} {H F H1 F1 H2 F2 : Hp} (x : Frm A H F H1 F1 A1) (y : Frm A1 H1 F1 H2 F2 A2) : Frm A H F H2 F2 A2 where
  ex := x.ex.trans y.ex
  keep := fun b o e n => y.keep b o (x.keep b o e n) fun a1 => by
    rcases x.asub b a1 with h | h
    · exact n h
    · rw [e] at h; cases h
  asub := fun b a2 => by
    rcases y.asub b a2 with h | h
    · exact x.asub b h
    · refine .inr ?_
      cases q : H b with
      | none => rfl
      | some o => exact absurd h (x.nv b (by rw [q]; simp))
  fgr := fun b h => by
    have hn : H1 b = none → H b = none := fun z => by
      cases q : H b with
      | none => rfl
      | some o => exact absurd z (x.nv b (by rw [q]; simp))
    rcases y.fgr b h with h | h | h
    · exact x.fgr b h
    · exact .inr (x.asub b h)
    · exact .inr (.inr (hn h))
  nv := fun b h => y.nv b (x.nv b h)
theorem Frm.back {A A1 : Addr → Prop} {H F H1 F1 : Hp} (x : Frm A H F H1 F1 A1) {a : Addr} (h : H1 a = none) : H a = none := by
  cases q : H a with
  | none => rfl
  | some o => exact absurd h (x.nv a (by rw [q]; simp))
/-- a new object -/
theorem Frm.new {A : Addr → Prop} {H F : Hp} {p : Addr} {o : HO} (h : H p = none) : Frm A H F (upd H p o) F A where
  ex := Ex.refl F
  keep := fun b u e _ => by rw [upd_ne (ne_of_none e h)]; exact e
  asub := fun _ a => .inl a
  fgr := fun _ a => .inl a
  nv := fun b e => by
    by_cases q : b = p
    · subst q; exact absurd h e
    · rw [upd_ne q]; exact e
/-- a new object that is known for good -/
theorem Frm.newF {A : Addr → Prop} {H F : Hp} {p : Addr} {o : HO} (h : H p = none) (hf : F p = none) : Frm A H F (upd H p o) (upd F p o) A where
  ex := Ex.new hf
  keep := fun b u e _ => by rw [upd_ne (ne_of_none e h)]; exact e
  asub := fun _ a => .inl a
  fgr := fun b a => by
    by_cases q : b = p
    · subst q; exact .inr (.inr h)
    · rw [upd_ne q] at a; exact .inl a
  nv := fun b e => by
    by_cases q : b = p
    · subst q; exact absurd h e
    · rw [upd_ne q]; exact e
theorem Frm.addF {A : Addr → Prop} {H F H' F' : Hp} {A' : Addr → Prop} (x : Frm A H F H' F' A') {p : Addr} {o : HO} (hf : F' p = none) (h : H p = none ∨ A p) : Frm A H F H' (upd F' p o) A' where
  ex := x.ex.trans (Ex.new hf)
  keep := x.keep
  asub := x.asub
  fgr := fun b a => by
    by_cases q : b = p
    · subst q; rcases h with h | h
      · exact .inr (.inr h)
      · exact .inr (.inl h)
    · rw [upd_ne q] at a; exact x.fgr b a
  nv := x.nv

theorem Sub.new {F H : Hp} (s : Sub F H) {p : Addr} {o : HO} (h : H p = none) : Sub F (upd H p o) := fun a u e => by
  have ne : a ≠ p := by
    rintro rfl
    rw [s.nil h] at e; cases e
  rw [upd_ne ne]
  exact s a u e
theorem Sub.newF {F H : Hp} (s : Sub F H) {p : Addr} {o : HO} (h : H p = none) : Sub (upd F p o) (upd H p o) := fun a u e => by
  by_cases q : a = p
  · subst q; rw [upd_same] at e ⊢; exact .inl e
  · rw [upd_ne q] at e ⊢; exact s a u e
theorem Sub.addF {F H : Hp} (s : Sub F H) {p : Addr} {o : HO} (h : H p = some o) : Sub (upd F p o) H := fun a u e => by
  by_cases q : a = p
  · subst q; rw [upd_same] at e; cases e; exact .inl h
  · rw [upd_ne q] at e; exact s a u e

theorem kd_set {O : List Kd} {i j : Nat} {k : Kd} (h : kd (O.set i k) j ≠ kd O j) : j = i ∧ kd (O.set i k) j = k := by
  unfold kd at *
  rw [List.getD_eq_getElem?_getD, List.getD_eq_getElem?_getD, List.getElem?_set] at h
  by_cases e : i = j
  · subst e
    refine ⟨rfl, ?_⟩
    rw [if_pos rfl] at h
    rw [List.getD_eq_getElem?_getD, List.getElem?_set, if_pos rfl]
    by_cases l : i < O.length
    · rw [if_pos l]; rfl
    · rw [if_neg l] at h
      exfalso; apply h
      rw [List.getElem?_eq_none (by omega)]
  · rw [if_neg e] at h
    exact absurd rfl h
theorem kd_set_ne {O : List Kd} {i j : Nat} {k : Kd} (h : j ≠ i) : kd (O.set i k) j = kd O j := by
  unfold kd
  rw [List.getD_eq_getElem?_getD, List.getD_eq_getElem?_getD, List.getElem?_set, if_neg (Ne.symm h)]
theorem kd_set_or (O : List Kd) (i : Nat) (k : Kd) (j : Nat) : kd (O.set i k) j = kd O j ∨ (j = i ∧ kd (O.set i k) j = k) := by
  by_cases h : kd (O.set i k) j = kd O j
  · exact .inl h
  · exact .inr (kd_set h)
theorem kd_set_self {O : List Kd} {i : Nat} {k : Kd} (h : i < O.length) : kd (O.set i k) i = k := by
  unfold kd
  rw [List.getD_eq_getElem?_getD, List.getElem?_set, if_pos rfl, if_pos h]; rfl
theorem kd_lt {O : List Kd} {i : Nat} (h : kd O i ≠ .fr) : i < O.length := by
  by_cases l : i < O.length
  · exact l
  · unfold kd at h
    rw [List.getD_eq_getElem?_getD, List.getElem?_eq_none (by omega)] at h
    exact absurd rfl h

section
variable {O : List Kd} {ρ ρ' : Env} {σ : L2.St} {H F H' F' : Hp} {p : PV} {v : V} {i : Nat} {a : Addr}
theorem SlotOk.mono {k : Kd} {A A' : Addr → Prop} (h : SlotOk k p v H F) (x : Frm A H F H' F' A') (hn : ∀ b, v = .ref b → isM p = true → k ≠ .fr → ¬ A b)
    (hf : ∀ b, v = .ref b → isM p = true → k.own = true → F b = none → F' b = none) : SlotOk k p v H' F' := by
  have rd : ∀ {b o}, Rd H b o → ¬ A b → Rd H' b o := fun {b o} r n => by
    rcases r with r | ⟨u, r⟩
    · exact .inl (x.keep _ _ r n)
    · exact .inr ⟨u, x.keep _ _ r n⟩
  cases k with
  | fr => exact Rep.mono x.ex h
  | lk =>
    rcases h with h | ⟨m, b, o, e, r, c⟩
    · exact .inl (h.mono x.ex)
    · exact .inr ⟨m, b, o, e, rd r (hn b e m (fun z => by cases z)), c.mono x.ex⟩
  | ow =>
    rcases h with ⟨m, h⟩ | ⟨m, b, o, e, r, f, c⟩
    · exact .inl ⟨m, h.mono x.ex⟩
    · exact .inr ⟨m, b, o, e, x.keep _ _ r (hn b e m (fun z => by cases z)), hf b e m rfl f, c.mono x.ex⟩
  | io =>
    rcases h with ⟨m, h⟩ | ⟨m, b, o, e, r, f, c⟩
    · exact .inl ⟨m, h.mono x.ex⟩
    · exact .inr ⟨m, b, o, e, x.keep _ _ r (hn b e m (fun z => by cases z)), hf b e m rfl f, c.mono x.ex⟩
/-- what an owned slot bears -/
theorem SlotOk.own {k : Kd} (hk : k.own = true) (h : SlotOk k p v H F) : (isM p = false ∧ Rep F p v) ∨ (isM p = true ∧ Own H F p v) := by
  cases k with
  | fr => cases hk
  | lk => cases hk
  | ow => exact h
  | io => exact h
theorem SlotOk.of_own {k : Kd} (hk : k.own = true) (h : (isM p = false ∧ Rep F p v) ∨ (isM p = true ∧ Own H F p v)) : SlotOk k p v H F := by
  cases k with
  | fr => cases hk
  | lk => cases hk
  | ow => exact h
  | io => exact h
theorem OwnA.at (s : StOk O ρ σ H F) (h : OwnA O ρ σ i a) : ∃ p o, ρ[i]? = some (some p) ∧ isM p = true ∧ H a = some o ∧ F a = none ∧ Cnt F p o := by
  obtain ⟨hk, ⟨p, hp, m⟩, hs⟩ := h
  obtain ⟨v, hv, sl⟩ := s.slot i p hp
  rw [hs] at hv
  cases hv
  rcases sl.own hk with ⟨m', _⟩ | ⟨_, b, o, e, r, f, c⟩
  · rw [m] at m'; cases m'
  · cases e; exact ⟨p, o, hp, m, r, f, c⟩
theorem OA.there (s : StOk O ρ σ H F) (h : OA O ρ σ a) : H a ≠ none ∧ F a = none := by
  obtain ⟨i, h⟩ := h
  obtain ⟨p, o, _, _, e, f, _⟩ := h.at s
  exact ⟨by rw [e]; simp, f⟩

/-- the same slots, another heap: nothing that the slots own was touched -/
theorem StOk.heap {A : Addr → Prop} {A' : Addr → Prop} (s : StOk O ρ σ H F) (x : Frm A H F H' F' A') (sub : Sub F' H') (hA : ∀ i b q, kd O i ≠ .fr → ρ[i]? = some (some q) → σ[i]? = some (some (.ref b)) → isM q = true → ¬ A b)
    (hF : ∀ b, OA O ρ σ b → F' b = none) : StOk O ρ σ H' F' where
  sub := sub
  len := s.len
  slot := fun i q hq => by
    obtain ⟨v, hv, sl⟩ := s.slot i q hq
    refine ⟨v, hv, sl.mono x (fun b e m k => ?_) fun b e m k f => ?_⟩
    · subst e; exact hA i b q k hq hv m
    · subst e; exact hF b ⟨i, k, ⟨q, hq, m⟩, hv⟩
  dis := s.dis
/-- a new object -/
theorem StOk.new {q : Addr} {o : HO} (s : StOk O ρ σ H F) (h : H q = none) : StOk O ρ σ (upd H q o) F :=
  s.heap (Frm.new (A := fun _ => False) h) (s.sub.new h) (fun _ _ _ _ _ _ _ z => z) fun b hb => (hb.there s).2
theorem StOk.newF {q : Addr} {o : HO} (s : StOk O ρ σ H F) (h : H q = none) : StOk O ρ σ (upd H q o) (upd F q o) :=
  s.heap (Frm.newF (A := fun _ => False) h (s.sub.nil h)) (s.sub.newF h) (fun _ _ _ _ _ _ _ z => z) fun b hb => by
    have hne : b ≠ q := by
      rintro rfl
      exact (hb.there s).1 h
    rw [upd_ne hne]; exact (hb.there s).2
/-- what stands there unowned is known for good from now on -/
theorem StOk.addF {q : Addr} {o : HO} (s : StOk O ρ σ H F) (h : H q = some o) (hf : F q = none) (n : ¬ OA O ρ σ q) : StOk O ρ σ H (upd F q o) where
  sub := s.sub.addF h
  len := s.len
  slot := fun i u hu => by
    obtain ⟨v, hv, sl⟩ := s.slot i u hu
    have ex : Ex F (upd F q o) := Ex.new hf
    refine ⟨v, hv, ?_⟩
    generalize hk : kd O i = k at sl
    have own : k.own = true → (isM u = false ∧ Rep F u v) ∨ (isM u = true ∧ Own H F u v) → (isM u = false ∧ Rep (upd F q o) u v) ∨ (isM u = true ∧ Own H (upd F q o) u v) := fun ko z => by
      rcases z with ⟨m, z⟩ | ⟨m, b, w, e, r, f, c⟩
      · exact .inl ⟨m, z.mono ex⟩
      · refine .inr ⟨m, b, w, e, r, ?_, c.mono ex⟩
        have hne : b ≠ q := by
          rintro rfl
          exact n ⟨i, by rw [hk]; exact ko, ⟨u, hu, m⟩, by rw [hv, e]⟩
        rw [upd_ne hne]; exact f
    cases k with
    | fr => exact Rep.mono ex sl
    | lk =>
      rcases sl with z | ⟨m, b, w, e, r, c⟩
      · exact .inl (z.mono ex)
      · exact .inr ⟨m, b, w, e, r, c.mono ex⟩
    | ow => exact own rfl sl
    | io => exact own rfl sl
  dis := s.dis
end

/-- what an expression gives: m = false: known for good; m = true: what may be changed is new and nobody's -/
def Res (m : Bool) (p : PV) (v : V) (H H' F' : Hp) (A' : Addr → Prop) : Prop :=
  (Rep F' p v ∧ (m = true → isM p = false)) ∨ (m = true ∧ isM p = true ∧ ∃ a o, v = .ref a ∧ H' a = some o ∧ F' a = none ∧ Cnt F' p o ∧ H a = none ∧ ¬ A' a)
/-- slots that are not owned bear what they bore -/
def EK (O : List Kd) (ρ ρ' : Env) : Prop := ρ'.length = ρ.length ∧ ∀ i, (kd O i).own = false → ρ'[i]? = ρ[i]?
theorem EK.refl (O : List Kd) (ρ : Env) : EK O ρ ρ := ⟨rfl, fun _ _ => rfl⟩
theorem EK.trans {O : List Kd} {ρ ρ1 ρ2 : Env} (x : EK O ρ ρ1) (y : EK O ρ1 ρ2) : EK O ρ ρ2 := ⟨y.1.trans x.1, fun i h => (y.2 i h).trans (x.2 i h)⟩

/-- behind an expression -/
structure PoE (O : List Kd) (ρ : Env) (σ : L2.St) (H F : Hp) (ρ' : Env) (H' F' : Hp) : Prop where
  st : StOk O ρ' σ H' F'
  fr : Frm (OA O ρ σ) H F H' F' (OA O ρ' σ)
  ek : EK O ρ ρ'
theorem PoE.refl {O : List Kd} {ρ : Env} {σ : L2.St} {H F : Hp} (s : StOk O ρ σ H F) : PoE O ρ σ H F ρ H F := ⟨s, Frm.refl _ _ _, EK.refl _ _⟩
theorem PoE.trans {O : List Kd} {ρ ρ1 ρ2 : Env} {σ : L2.St} {H F H1 F1 H2 F2 : Hp} (x : PoE O ρ σ H F ρ1 H1 F1) (y : PoE O ρ1 σ H1 F1 ρ2 H2 F2) : PoE O ρ σ H F ρ2 H2 F2 := ⟨y.st, x.fr.trans y.fr, x.ek.trans y.ek⟩

/-- a slot that is read while something else runs -/
def lockO (r : Option Nat) (O : List Kd) : List Kd :=
  match r with
  | none => O
  | some j => if (kd O j).own then O.set j .lk else O
theorem lockO_kd (r : Option Nat) (O : List Kd) (i : Nat) : kd (lockO r O) i = kd O i ∨ (r = some i ∧ kd (lockO r O) i = .lk ∧ (kd O i).own = true) := by
  cases r with
  | none => exact .inl rfl
  | some j =>
    unfold lockO
    by_cases h : (kd O j).own = true
    · simp only [h, if_true]
      rcases kd_set_or O j .lk i with e | ⟨rfl, e⟩
      · exact .inl e
      · exact .inr ⟨rfl, e, h⟩
    · simp only [h]
      exact .inl rfl
theorem lockO_own {r : Option Nat} {O : List Kd} {i : Nat} (h : (kd (lockO r O) i).own = true) : kd (lockO r O) i = kd O i := by
  rcases lockO_kd r O i with e | ⟨_, e, _⟩
  · exact e
  · rw [e] at h; cases h
theorem lockO_self {j : Nat} {O : List Kd} : (kd (lockO (some j) O) j).own = false := by
  rcases lockO_kd (some j) O j with e | ⟨_, e, _⟩
  · by_cases h : (kd O j).own = true
    · have hl : j < O.length := kd_lt (fun z => by rw [z] at h; cases h)
      have e2 : kd (lockO (some j) O) j = .lk := by
        unfold lockO
        simp only [h, if_true]
        exact kd_set_self hl
      rw [e2]; rfl
    · rw [e]; simpa using h
  · rw [e]; rfl
theorem OA.unlock {r : Option Nat} {O : List Kd} {ρ : Env} {σ : L2.St} {a : Addr} (h : OA (lockO r O) ρ σ a) : OA O ρ σ a := by
  obtain ⟨i, hk, hp, hs⟩ := h
  exact ⟨i, by rw [← lockO_own hk]; exact hk, hp, hs⟩
theorem StOk.lock {O : List Kd} {ρ : Env} {σ : L2.St} {H F : Hp} (r : Option Nat) (s : StOk O ρ σ H F) : StOk (lockO r O) ρ σ H F where
  sub := s.sub
  len := s.len
  slot := fun i p hp => by
    obtain ⟨v, hv, sl⟩ := s.slot i p hp
    refine ⟨v, hv, ?_⟩
    rcases lockO_kd r O i with e | ⟨_, e, ho⟩
    · rw [e]; exact sl
    · rw [e]
      rcases sl.own ho with ⟨_, z⟩ | ⟨m, a, o, e, h, _, c⟩
      · exact .inl z
      · exact .inr ⟨m, a, o, e, .inl h, c⟩
  dis := fun i j a p ne ho hk hp hs => by
    have ho' : OwnA O ρ σ i a := ⟨by rw [← lockO_own ho.1]; exact ho.1, ho.2⟩
    refine s.dis i j a p ne ho' (fun z => ?_) hp hs
    rcases lockO_kd r O j with e | ⟨_, e, h⟩
    · rw [e] at hk; exact hk z
    · rw [z] at h; cases h
/-- .. and behind it -/
theorem PoE.unlock {r : Option Nat} {O : List Kd} {ρ ρ' : Env} {σ : L2.St} {H F H' F' : Hp} (s : StOk O ρ σ H F) (x : PoE (lockO r O) ρ σ H F ρ' H' F') : PoE O ρ σ H F ρ' H' F' := by
  have noA : ∀ j b p, (kd O j).own = true → (kd (lockO r O) j).own = false → ρ[j]? = some (some p) → isM p = true → σ[j]? = some (some (.ref b)) → ¬ OA (lockO r O) ρ σ b := fun j b p ko kl hp m hs ⟨i, h⟩ => by
    have ne : i ≠ j := by
      rintro rfl
      rw [h.1] at kl; cases kl
    have ho' : OwnA O ρ σ i b := ⟨by rw [← lockO_own h.1]; exact h.1, h.2⟩
    exact s.dis i j b p ne ho' (fun z => by rw [z] at ko; cases ko) hp hs
  -- a slot that is owned but locked
  have back : ∀ j p, (kd O j).own = true → (kd (lockO r O) j).own = false → ρ'[j]? = some (some p) → ρ[j]? = some (some p) := fun j p _ kl hp => by
    rw [← x.ek.2 j kl]; exact hp
  refine ⟨⟨x.st.sub, x.st.len, fun i p hp => ?_, fun i j a p ne ho hk hp hs => ?_⟩, ⟨x.fr.ex, fun b o e n => x.fr.keep b o e fun z => n z.unlock, fun b hb => ?_, fun b h => ?_, x.fr.nv⟩, x.ek.1, fun i hi => ?_⟩
  · obtain ⟨v, hv, sl⟩ := x.st.slot i p hp
    refine ⟨v, hv, ?_⟩
    rcases lockO_kd r O i with e | ⟨_, e, ho⟩
    · rw [e] at sl; exact sl
    · have kl : (kd (lockO r O) i).own = false := by rw [e]; rfl
      have hp0 := back i p ho kl hp
      obtain ⟨v0, hv0, sl0⟩ := s.slot i p hp0
      rw [hv] at hv0
      cases hv0
      refine .of_own ho ?_
      rcases sl0.own ho with ⟨m, z⟩ | ⟨m, a, o, e, h, f, c⟩
      · exact .inl ⟨m, z.mono x.fr.ex⟩
      · subst e
        have nA := noA i a p ho kl hp0 m hv
        refine .inr ⟨m, a, o, rfl, x.fr.keep _ _ h nA, ?_, c.mono x.fr.ex⟩
        cases q : F' a with
        | none => rfl
        | some u =>
          rcases x.fr.fgr a (by rw [q]; simp) with z | z | z
          · exact absurd f z
          · exact absurd z nA
          · rw [h] at z; cases z
  · -- two slots, one of them owned
    by_cases hi : (kd (lockO r O) i).own = true
    · have ho' : OwnA (lockO r O) ρ' σ i a := ⟨hi, ho.2⟩
      refine x.st.dis i j a p ne ho' (fun z => ?_) hp hs
      rcases lockO_kd r O j with e | ⟨_, e, _⟩
      · rw [e] at z; exact hk z
      · rw [e] at z; cases z
    · have hi' : (kd (lockO r O) i).own = false := by simpa using hi
      obtain ⟨ko, ⟨q, hq, m⟩, hsi⟩ := ho
      have hq0 := back i q ko hi' hq
      by_cases hj : (kd (lockO r O) j).own = true
      · -- j is owned, i was locked
        have nA := noA i a q ko hi' hq0 m hsi
        cases mp : isM p with
        | true =>
          have hA : OA (lockO r O) ρ' σ a := ⟨j, hj, ⟨p, hp, mp⟩, hs⟩
          rcases x.fr.asub a hA with z | z
          · exact nA z
          · obtain ⟨p0, o0, _, _, e0, _⟩ := OwnA.at s (⟨ko, ⟨q, hq0, m⟩, hsi⟩ : OwnA O ρ σ i a)
            rw [e0] at z; cases z
        | false =>
          -- p is no container: it is known at a, but a is not known
          obtain ⟨v, hv, sl⟩ := x.st.slot j p hp
          rw [hs] at hv; cases hv
          rcases sl.own hj with ⟨_, z⟩ | ⟨m', _⟩
          · cases z with
            | ref hF _ =>
              obtain ⟨p0, o0, _, _, e0, f0, _⟩ := OwnA.at s (⟨ko, ⟨q, hq0, m⟩, hsi⟩ : OwnA O ρ σ i a)
              rcases x.fr.fgr a (by rw [hF]; simp) with z | z | z
              · exact z f0
              · exact nA z
              · rw [e0] at z; cases z
          · rw [mp] at m'; cases m'
      · have hj' : (kd (lockO r O) j).own = false := by simpa using hj
        have hp0 : ρ[j]? = some (some p) := by rw [← x.ek.2 j hj']; exact hp
        exact s.dis i j a p ne ⟨ko, ⟨q, hq0, m⟩, hsi⟩ hk hp0 hs
  · -- owned behind it
    obtain ⟨i, ko, ⟨q, hq, m⟩, hsi⟩ := hb
    by_cases hi : (kd (lockO r O) i).own = true
    · rcases x.fr.asub b ⟨i, hi, ⟨q, hq, m⟩, hsi⟩ with z | z
      · exact .inl z.unlock
      · exact .inr z
    · have hi' : (kd (lockO r O) i).own = false := by simpa using hi
      exact .inl ⟨i, ko, ⟨q, back i q ko hi' hq, m⟩, hsi⟩
  · rcases x.fr.fgr b h with z | z | z
    · exact .inl z
    · exact .inr (.inl z.unlock)
    · exact .inr (.inr z)
  · refine x.ek.2 i ?_
    rcases lockO_kd r O i with e | ⟨_, e, _⟩
    · rw [e]; exact hi
    · rw [e]; rfl

end Pv

/-! Pv1: expressions by plain values: the readings, names, constants, operators' frame, tests, displays. -/
namespace Pv
open PySem PySem.Spec PyProof.Rows L2

abbrev EF := Env → Option (PV × Env)
abbrev TF := Env → Option (Bool × Env)
abbrev LF := Env → Option (List PV × Env)

def RdV (p : PV) (v : V) (H F : Hp) : Prop := Rep F p v ∨ (isM p = true ∧ Lok H F p v)
def RdOk (p : PV) (v : V) (H F : Hp) (A : Addr → Prop) : Prop := Rep F p v ∨ (isM p = true ∧ ∃ a o, v = .ref a ∧ Rd H a o ∧ Cnt F p o ∧ ¬ A a)

/-! ### the readings -/
def tE (O : List Kd) (m : Bool) (f : EF) : TE := fun σ H Q => ∃ F ρ p ρ', StOk O ρ σ H F ∧ f ρ = some (p, ρ') ∧ ∀ v H' F', PoE O ρ σ H F ρ' H' F' → Res m p v H H' F' (OA O ρ' σ) → Q v H'
def tR (O : List Kd) (r : Option Nat) (f : EF) : TE := fun σ H Q => ∃ F ρ p ρ', StOk O ρ σ H F ∧ f ρ = some (p, ρ') ∧ ∀ v H' F', PoE O ρ σ H F ρ' H' F' → RdOk p v H' F' (OA (lockO r O) ρ' σ) → Q v H'
def tT (O : List Kd) (f : TF) : TT := fun σ H Q => ∃ F ρ p ρ', StOk O ρ σ H F ∧ f ρ = some (p, ρ') ∧ ∀ H' F', PoE O ρ σ H F ρ' H' F' → Q p H'

abbrev RE (X : Cx) (O : List Kd) (m : Bool) (e : Expr) (f : EF) : Prop := PE X e (tE O m f)
abbrev RR (X : Cx) (O : List Kd) (r : Option Nat) (e : Expr) (f : EF) : Prop := PE X e (tR O r f)
abbrev RT (X : Cx) (O : List Kd) (e : Expr) (f : TF) : Prop := PT X e (tT O f)

theorem pe_imp {X : Cx} {e : Expr} {t t' : TE} (h : PE X e t) (i : ∀ σ H Q, t' σ H Q → t σ H Q) : PE X e t' := ⟨fun pins s σ H Q I q => h.run pins s σ H Q I (i σ H Q q)⟩
theorem pt_imp {X : Cx} {e : Expr} {t t' : TT} (h : PT X e t) (i : ∀ σ H Q, t' σ H Q → t σ H Q) : PT X e t' := ⟨fun pins s σ H Q I q => h.run pins s σ H Q I (i σ H Q q)⟩

theorem RdOk.val {p : PV} {v : V} {H F : Hp} {A : Addr → Prop} (h : RdOk p v H F A) : RdV p v H F := by
  rcases h with h | ⟨m, a, o, e, r, c, _⟩
  · exact .inl h
  · exact .inr ⟨m, a, o, e, r, c⟩
theorem RdOk.stay {p : PV} {v : V} {H F H' F' : Hp} {A A' : Addr → Prop} (h : RdOk p v H F A) (x : Frm A H F H' F' A') : RdV p v H' F' := by
  rcases h with h | ⟨m, a, o, e, r, c, n⟩
  · exact .inl (h.mono x.ex)
  · refine .inr ⟨m, a, o, e, ?_, c.mono x.ex⟩
    rcases r with r | ⟨u, r⟩
    · exact .inl (x.keep _ _ r n)
    · exact .inr ⟨u, x.keep _ _ r n⟩
theorem Res.rd {O : List Kd} {ρ' : Env} {σ : L2.St} {m : Bool} {p : PV} {v : V} {H H' F' : Hp} (h : Res m p v H H' F' (OA O ρ' σ)) : RdOk p v H' F' (OA (lockO none O) ρ' σ) := by
  rcases h with ⟨h, _⟩ | ⟨_, m, a, o, e, r, _, c, _, n⟩
  · exact .inl h
  · exact .inr ⟨m, a, o, e, .inl r, c, n⟩

theorem rr_of {X : Cx} {O : List Kd} {m : Bool} {e : Expr} {f : EF} (h : RE X O m e f) : RR X O none e f :=
  pe_imp h fun σ H Q ⟨F, ρ, p, ρ', st, hf, k⟩ => ⟨F, ρ, p, ρ', st, hf, fun v H' F' po rs => k v H' F' po rs.rd⟩
/-- what is new is nobody's: known for good from now on -/
theorem re_dn {X : Cx} {O : List Kd} {e : Expr} {f : EF} {m : Bool} (h : RE X O m e f) : RE X O false e f :=
  pe_imp h fun σ H Q ⟨F, ρ, p, ρ', st, hf, k⟩ => ⟨F, ρ, p, ρ', st, hf, fun v H' F' po rs => by
    rcases rs with ⟨h, _⟩ | ⟨_, m, a, o, e, r, f0, c, n0, n⟩
    · exact k v H' F' po (.inl ⟨h, fun z => nomatch z⟩)
    · subst e
      exact k _ H' (upd F' a o) ⟨po.st.addF r f0 n, po.fr.addF f0 (.inl n0), po.ek⟩ (.inl ⟨.ref upd_same (c.mono (Ex.new f0)), fun z => nomatch z⟩)⟩

theorem rep_bl {F : Hp} {b : Bool} {v : V} (h : Rep F (.bl b) v) : v = .bl b := by
  cases h with
  | bl => rfl
  | ref _ c => cases c
theorem rep_int {F : Hp} {b : Int} {v : V} (h : Rep F (.int b) v) : v = .int b := by
  cases h with
  | int => rfl
  | ref _ c => cases c
theorem rep_str {F : Hp} {b : Str} {v : V} (h : Rep F (.str b) v) : v = .str b := by
  cases h with
  | str => rfl
  | ref _ c => cases c
theorem rep_non {F : Hp} {v : V} (h : Rep F .non v) : v = .non := by
  cases h with
  | non => rfl
  | ref _ c => cases c
/-! ### names, constants -/
def eC (p : PV) : EF := fun ρ => some (p, ρ)
def eV (i : Nat) : EF := fun ρ => match ρ[i]? with | some (some p) => some (p, ρ) | _ => none
theorem eV_some {i : Nat} {ρ ρ' : Env} {p : PV} (h : eV i ρ = some (p, ρ')) : ρ[i]? = some (some p) ∧ ρ' = ρ := by
  unfold eV at h
  split at h
  · cases h; exact ⟨by assumption, rfl⟩
  · cases h
section
variable {X : Cx} {O : List Kd} {m : Bool}
theorem re_c {e : Expr} {p : PV} {v : V} (h : PE X e (tC v)) (r : ∀ F, Rep F p v) (hm : isM p = false := by rfl) : RE X O m e (eC p) :=
  pe_imp h fun σ H Q ⟨F, ρ, q, ρ', st, hf, k⟩ => by
    cases hf
    exact k v H F (PoE.refl st) (.inl ⟨r F, fun _ => hm⟩)
theorem re_int {i j pos} : RE X O m (.Constant (.int i) j pos) (eC (.int i)) := re_c pe_int fun F => .int i
theorem re_bl {b j pos} : RE X O m (.Constant (.bool b) j pos) (eC (.bl b)) := re_c pe_bl fun F => .bl b
theorem re_non {j pos} : RE X O m (.Constant .none j pos) (eC .non) := re_c pe_non fun F => .non
theorem re_str {x j pos} : RE X O m (.Constant (.str x) j pos) (eC (.str x)) := re_c pe_str fun F => .str x
theorem re_v (i : Nat) {x : Str} {pos : Pos} (hk : kd O i = .fr := by rfl) (hN : X.N[i]? = some x := by rfl) (hv : Vis X.env.scope x := by first | exact Or.inl rfl | exact Or.inr (Or.inl rfl) | exact Or.inr (Or.inr rfl)) (hd : (x == ("__debug__" : Str)) = false := by decide)
    (hcd : (x == ("__classdict__" : Str)) = false := by decide) : RE X O false (.Name x pos) (eV i) :=
  pe_imp (pe_var hN hv hd hcd) fun σ H Q ⟨F, ρ, p, ρ', st, hf, k⟩ => by
    obtain ⟨hp, rfl⟩ := eV_some hf
    obtain ⟨v, hv, sl⟩ := st.slot i p hp
    rw [hk] at sl
    exact ⟨v, hv, k v H F (PoE.refl st) (.inl ⟨sl, fun z => nomatch z⟩)⟩
/-- a name whose thing is read -/
theorem rr_v (i : Nat) {x : Str} {pos : Pos} (hN : X.N[i]? = some x := by rfl) (hv : Vis X.env.scope x := by first | exact Or.inl rfl | exact Or.inr (Or.inl rfl) | exact Or.inr (Or.inr rfl)) (hd : (x == ("__debug__" : Str)) = false := by decide)
    (hcd : (x == ("__classdict__" : Str)) = false := by decide) : RR X O (some i) (.Name x pos) (eV i) :=
  pe_imp (pe_var hN hv hd hcd) fun σ H Q ⟨F, ρ, p, ρ', st, hf, k⟩ => by
    obtain ⟨hp, rfl⟩ := eV_some hf
    obtain ⟨v, hv, sl⟩ := st.slot i p hp
    refine ⟨v, hv, k v H F (PoE.refl st) ?_⟩
    have nA : ∀ a, v = .ref a → kd O i ≠ .fr → ¬ OA (lockO (some i) O) ρ' σ a := fun a e hk ⟨j, hj⟩ => by
      subst e
      have ne : j ≠ i := by
        rintro rfl
        have := hj.1
        rw [lockO_self] at this; cases this
      exact st.dis j i a p ne ⟨by rw [← lockO_own hj.1]; exact hj.1, hj.2⟩ hk hp hv
    by_cases ho : (kd O i).own = true
    · rcases sl.own ho with ⟨_, z⟩ | ⟨m, a, o, e, h, _, c⟩
      · exact .inl z
      · exact .inr ⟨m, a, o, e, .inl h, c, nA a e (fun z => by rw [z] at ho; cases ho)⟩
    · generalize hk : kd O i = q at sl ho
      cases q with
      | fr => exact .inl sl
      | lk =>
        rcases sl with z | ⟨m, a, o, e, h, c⟩
        · exact .inl z
        · exact .inr ⟨m, a, o, e, h, c, nA a e (by rw [hk]; intro z; cases z)⟩
      | ow => exact absurd rfl ho
      | io => exact absurd rfl ho
end

/-! ### operators by values -/
/-- what an operation gives: a known thing, or a new one -/
def PRes (m : Bool) (p : PV) (v : V) (H F H' : Hp) : Prop := (H' = H ∧ Rep F p v ∧ (m = true → isM p = false)) ∨ ∃ a o, v = .ref a ∧ H a = none ∧ H' = upd H a o ∧ Cnt F p o
theorem PRes.fin {O : List Kd} {ρ : Env} {σ : L2.St} {m : Bool} {p : PV} {v : V} {H F H' : Hp} (h : PRes m p v H F H') (st : StOk O ρ σ H F) : ∃ F', PoE O ρ σ H F ρ H' F' ∧ Res m p v H H' F' (OA O ρ σ) := by
  rcases h with ⟨rfl, r, hm⟩ | ⟨a, o, rfl, n, rfl, c⟩
  · exact ⟨F, PoE.refl st, .inl ⟨r, hm⟩⟩
  · by_cases hm : m = true ∧ isM p = true
    · exact ⟨F, ⟨st.new n, Frm.new n, EK.refl _ _⟩, .inr ⟨hm.1, hm.2, a, o, rfl, upd_same, st.sub.nil n, c, n, fun z => (z.there st).1 n⟩⟩
    · refine ⟨upd F a o, ⟨st.newF n, Frm.newF n (st.sub.nil n), EK.refl _ _⟩, .inl ⟨.ref upd_same (c.mono (Ex.new (st.sub.nil n))), fun z => ?_⟩⟩
      cases q : isM p with
      | true => exact absurd ⟨z, q⟩ hm
      | false => rfl
def r2 (m : Bool) (g : PV → PV → Option PV) : R2 := fun x y H Q => ∃ F p q z, Sub F H ∧ g p q = some z ∧ RdV p x H F ∧ RdV q y H F ∧ ∀ v H', PRes m z v H F H' → Q v H'
def r1 (m : Bool) (g : PV → Option PV) : V → Hp → VK → Prop := fun x H Q => ∃ F p z, Sub F H ∧ g p = some z ∧ RdV p x H F ∧ ∀ v H', PRes m z v H F H' → Q v H'

def e1 (g : PV → Option PV) (a : EF) : EF := fun ρ => (a ρ).bind fun x => (g x.1).bind fun z => some (z, x.2)
def e2 (g : PV → PV → Option PV) (a b : EF) : EF := fun ρ => (a ρ).bind fun x => (b x.2).bind fun y => (g x.1 y.1).bind fun z => some (z, y.2)
theorem bind_some {α β : Type} {o : Option α} {f : α → Option β} {z : β} (h : o.bind f = some z) : ∃ a, o = some a ∧ f a = some z := Option.bind_eq_some_iff.mp h

section
variable {X : Cx} {O : List Kd} {a b : Expr} {fa fb : EF} {ra rb : Option Nat} {pos : Pos} {g : PV → PV → Option PV} {m : Bool}
theorem Res.trans {O : List Kd} {ρ ρ1 : Env} {σ : L2.St} {m : Bool} {p : PV} {v : V} {H F H1 F1 H2 F2 : Hp} {A : Addr → Prop} (po : PoE O ρ σ H F ρ1 H1 F1) (h : Res m p v H1 H2 F2 A) : Res m p v H H2 F2 A := by
  rcases h with h | ⟨e, m, a, o, e1, r, f0, c, n0, n⟩
  · exact .inl h
  · exact .inr ⟨e, m, a, o, e1, r, f0, c, po.fr.back n0, n⟩
theorem imp_op2 : ∀ σ H Q, tE O m (e2 g fa fb) σ H Q → tOp (r2 m g) (tR O ra fa) (tR (lockO ra O) rb fb) σ H Q := fun σ H Q ⟨F, ρ, p, ρ', st, hf, k⟩ => by
  obtain ⟨⟨x, ρ1⟩, h1, hf⟩ := bind_some hf
  obtain ⟨⟨y, ρ2⟩, h2, hf⟩ := bind_some hf
  obtain ⟨z, h3, hf⟩ := bind_some hf
  cases hf
  refine ⟨F, ρ, x, ρ1, st, h1, fun v1 H1 F1 po1 rd1 => ⟨F1, ρ1, y, ρ2, po1.st.lock ra, h2, fun v2 H2 F2 po2 rd2 => ?_⟩⟩
  have po := po1.trans (po2.unlock po1.st)
  refine ⟨F2, x, y, p, po2.st.sub, h3, rd1.stay po2.fr, rd2.val, fun v H' pr => ?_⟩
  obtain ⟨F', po3, rs⟩ := pr.fin po.st
  exact k v H' F' (po.trans po3) (rs.trans po)
theorem re_op2 {op : Operator} (ho : OpR X (binaryOp op) (r2 m g)) (ha : RR X O ra a fa) (hb : RR X (lockO ra O) rb b fb) : RE X O m (.BinOp a op b pos) (e2 g fa fb) :=
  pe_imp (pe_op ho ha hb) imp_op2
theorem re_cmp {op : CmpOp} (ho : OpR X (compareOp op) (r2 m g)) (ha : RR X O ra a fa) (hb : RR X (lockO ra O) rb b fb) (hm : behindInMarks op b = false := by first | exact nomark _ | with_unfolding_all rfl) : RE X O m (.Compare a [op] [b] pos) (e2 g fa fb) :=
  pe_imp (pe_cmpR ho ha hb hm) imp_op2
theorem re_un {op : UnaryOp} {g : PV → Option PV} (ho : UnR X (unaryOp op) (r1 m g)) (ha : RR X O ra a fa) : RE X O m (.UnaryOp op a pos) (e1 g fa) :=
  pe_imp (pe_un ho ha) fun σ H Q ⟨F, ρ, p, ρ', st, hf, k⟩ => by
    obtain ⟨⟨x, ρ1⟩, h1, hf⟩ := bind_some hf
    obtain ⟨z, h3, hf⟩ := bind_some hf
    cases hf
    refine ⟨F, ρ, x, ρ1, st, h1, fun v1 H1 F1 po rd1 => ?_⟩
    refine ⟨F1, x, p, po.st.sub, h3, rd1.val, fun v H' pr => ?_⟩
    obtain ⟨F', po3, rs⟩ := pr.fin po.st
    exact k v H' F' (po.trans po3) (rs.trans po)

/-! ### tests -/
def tV (a : EF) : TF := fun ρ => (a ρ).bind fun x => match x.1 with | .bl b => some (b, x.2) | _ => none
theorem tV_some {a : EF} {ρ ρ' : Env} {b : Bool} (h : tV a ρ = some (b, ρ')) : a ρ = some (.bl b, ρ') := by
  obtain ⟨⟨x, ρ1⟩, h1, h2⟩ := bind_some h
  cases x <;> simp at h2
  obtain ⟨rfl, rfl⟩ := h2
  exact h1
theorem imp_tV {m : Bool} : ∀ σ H Q, tT O (tV fa) σ H Q → tTest (tE O m fa) σ H Q := fun σ H Q ⟨F, ρ, p, ρ', st, hf, k⟩ => by
  refine ⟨F, ρ, .bl p, ρ', st, tV_some hf, fun v H' F' po rs => ?_⟩
  rcases rs with ⟨h, _⟩ | ⟨_, m, _⟩
  · rw [rep_bl h]; exact ⟨p, rfl, k H' F' po⟩
  · cases m
/-- an expression that gives True or False, as a test -/
theorem rt_v {m : Bool} (h : RE X O m a fa) (he : ∀ whole, isTrue a X.env whole = (do let v ← whole; standAt a.pos; holding [v] (truthy v)) := by intro _; rfl) : RT X O a (tV fa) :=
  pt_imp (pt_val h he) imp_tV
theorem rt_cmp {op : CmpOp} (ho : OpR X (compareOp op) (r2 true g)) (ha : RR X O ra a fa) (hb : RR X (lockO ra O) rb b fb) (hm : behindInMarks op b = false := by first | exact nomark _ | with_unfolding_all rfl) : RT X O (.Compare a [op] [b] pos) (tV (e2 g fa fb)) :=
  pt_imp (pt_cmpR ho ha hb hm) fun σ H Q h => by
    obtain ⟨F, ρ, p, ρ', st, hf, k⟩ := imp_tV (m := true) σ H Q h
    exact imp_op2 σ H _ ⟨F, ρ, p, ρ', st, hf, k⟩
def tAndF (s t : TF) : TF := fun ρ => (s ρ).bind fun x => if x.1 then t x.2 else some (false, x.2)
def tOrF (s t : TF) : TF := fun ρ => (s ρ).bind fun x => if x.1 then some (true, x.2) else t x.2
def tNotF (s : TF) : TF := fun ρ => (s ρ).bind fun x => some (!x.1, x.2)
def RW (X : Cx) (O : List Kd) (e : Expr) (f : TF) : Prop := PW X e (tT O f)
theorem RW.t {e : Expr} {f : TF} (h : RW X O e f) : RT X O e f := PW.pt h
theorem pw_imp {e : Expr} {t t' : TT} (h : PW X e t) (i : ∀ σ H Q, t' σ H Q → t σ H Q) : PW X e t' := ⟨fun whole pins s σ H Q I q => h.run whole pins s σ H Q I (i σ H Q q)⟩
theorem rw_and1 {s : TF} (ha : RT X O a s) : RW X O (.BoolOp .And [a] pos) s := pw_and1 ha
theorem rw_or1 {s : TF} (ha : RT X O a s) : RW X O (.BoolOp .Or [a] pos) s := pw_or1 ha
theorem rw_and {s t : TF} {rest : List Expr} (ha : RT X O a s) (hb : RW X O (.BoolOp .And (b :: rest) pos) t) : RW X O (.BoolOp .And (a :: b :: rest) pos) (tAndF s t) :=
  pw_imp (pw_and ha hb) fun σ H Q ⟨F, ρ, p, ρ', st, hf, k⟩ => by
    obtain ⟨⟨x, ρ1⟩, h1, hf⟩ := bind_some hf
    refine ⟨F, ρ, x, ρ1, st, h1, fun H1 F1 po1 => ?_⟩
    cases x with
    | true => exact iteT ⟨F1, ρ1, p, ρ', po1.st, hf, fun H2 F2 po2 => k H2 F2 (po1.trans po2)⟩
    | false => cases hf; exact iteF (k H1 F1 po1)
theorem rw_or {s t : TF} {rest : List Expr} (ha : RT X O a s) (hb : RW X O (.BoolOp .Or (b :: rest) pos) t) : RW X O (.BoolOp .Or (a :: b :: rest) pos) (tOrF s t) :=
  pw_imp (pw_or ha hb) fun σ H Q ⟨F, ρ, p, ρ', st, hf, k⟩ => by
    obtain ⟨⟨x, ρ1⟩, h1, hf⟩ := bind_some hf
    refine ⟨F, ρ, x, ρ1, st, h1, fun H1 F1 po1 => ?_⟩
    cases x with
    | true => cases hf; exact iteT (k H1 F1 po1)
    | false => exact iteF ⟨F1, ρ1, p, ρ', po1.st, hf, fun H2 F2 po2 => k H2 F2 (po1.trans po2)⟩
theorem rt_not {s : TF} (ha : RT X O a s) : RT X O (.UnaryOp .Not a pos) (tNotF s) :=
  pt_imp (pt_not ha) fun σ H Q ⟨F, ρ, p, ρ', st, hf, k⟩ => by
    obtain ⟨⟨x, ρ1⟩, h1, hf⟩ := bind_some hf
    cases hf
    exact ⟨F, ρ, x, _, st, h1, fun H1 F1 po1 => k H1 F1 po1⟩
/-! .. as values -/
def eAnd (s t : EF) : EF := fun ρ => (tV s ρ).bind fun x => if x.1 then t x.2 else some (.bl false, x.2)
def eOr (s t : EF) : EF := fun ρ => (tV s ρ).bind fun x => if x.1 then some (.bl true, x.2) else t x.2
def eNot (s : EF) : EF := fun ρ => (tV s ρ).bind fun x => some (.bl (!x.1), x.2)
def eIf (c : TF) (s t : EF) : EF := fun ρ => (c ρ).bind fun x => if x.1 then s x.2 else t x.2
theorem res_bl {p : Bool} {v : V} {H H' F' : Hp} {A : Addr → Prop} {m : Bool} (h : Res m (.bl p) v H H' F' A) : v = .bl p := by
  rcases h with ⟨h, _⟩ | ⟨_, z, _⟩
  · exact rep_bl h
  · cases z
theorem re_one {op} {m : Bool} (h : RE X O m a fa) : RE X O m (.BoolOp op [a] pos) fa := pe_one h
theorem re_and {m m' : Bool} {rest : List Expr} (ha : RE X O m' a fa) (hb : RE X O m (.BoolOp .And (b :: rest) pos) fb) : RE X O m (.BoolOp .And (a :: b :: rest) pos) (eAnd fa fb) :=
  pe_imp (pe_and ha hb) fun σ H Q ⟨F, ρ, p, ρ', st, hf, k⟩ => by
    obtain ⟨⟨x, ρ1⟩, h1, hf⟩ := bind_some hf
    refine ⟨F, ρ, .bl x, ρ1, st, tV_some h1, fun v H1 F1 po1 rs => ⟨x, res_bl rs, ?_⟩⟩
    cases x with
    | true => exact iteT ⟨F1, ρ1, p, ρ', po1.st, hf, fun v H2 F2 po2 rs2 => k v H2 F2 (po1.trans po2) (rs2.trans po1)⟩
    | false => cases hf; exact iteF (k _ H1 F1 po1 (.inl ⟨.bl false, fun _ => rfl⟩))
theorem re_or {m m' : Bool} {rest : List Expr} (ha : RE X O m' a fa) (hb : RE X O m (.BoolOp .Or (b :: rest) pos) fb) : RE X O m (.BoolOp .Or (a :: b :: rest) pos) (eOr fa fb) :=
  pe_imp (pe_or ha hb) fun σ H Q ⟨F, ρ, p, ρ', st, hf, k⟩ => by
    obtain ⟨⟨x, ρ1⟩, h1, hf⟩ := bind_some hf
    refine ⟨F, ρ, .bl x, ρ1, st, tV_some h1, fun v H1 F1 po1 rs => ⟨x, res_bl rs, ?_⟩⟩
    cases x with
    | true => cases hf; exact iteT (k _ H1 F1 po1 (.inl ⟨.bl true, fun _ => rfl⟩))
    | false => exact iteF ⟨F1, ρ1, p, ρ', po1.st, hf, fun v H2 F2 po2 rs2 => k v H2 F2 (po1.trans po2) (rs2.trans po1)⟩
theorem re_not {m' : Bool} (ha : RE X O m' a fa) : RE X O m (.UnaryOp .Not a pos) (eNot fa) :=
  pe_imp (pe_not ha) fun σ H Q ⟨F, ρ, p, ρ', st, hf, k⟩ => by
    obtain ⟨⟨x, ρ1⟩, h1, hf⟩ := bind_some hf
    cases hf
    exact ⟨F, ρ, .bl x, _, st, tV_some h1, fun v H1 F1 po1 rs => ⟨x, res_bl rs, k _ H1 F1 po1 (.inl ⟨.bl _, fun _ => rfl⟩)⟩⟩
theorem re_if {c : Expr} {m : Bool} {s : TF} (hc : RT X O c s) (ha : RE X O m a fa) (hb : RE X O m b fb) : RE X O m (.IfExp c a b pos) (eIf s fa fb) :=
  pe_imp (pe_ifExp hc ha hb) fun σ H Q ⟨F, ρ, p, ρ', st, hf, k⟩ => by
    obtain ⟨⟨x, ρ1⟩, h1, hf⟩ := bind_some hf
    refine ⟨F, ρ, x, ρ1, st, h1, fun H1 F1 po1 => ?_⟩
    cases x with
    | true => exact iteT ⟨F1, ρ1, p, ρ', po1.st, hf, fun v H2 F2 po2 rs2 => k v H2 F2 (po1.trans po2) (rs2.trans po1)⟩
    | false => exact iteF ⟨F1, ρ1, p, ρ', po1.st, hf, fun v H2 F2 po2 rs2 => k v H2 F2 (po1.trans po2) (rs2.trans po1)⟩
/-- a < b < c -/
def e3c (g g' : PV → PV → Option PV) (a b c : EF) : EF := fun ρ => (a ρ).bind fun x => (b x.2).bind fun y => (g x.1 y.1).bind fun z => match z with
  | .bl true => (c y.2).bind fun u => (g' y.1 u.1).bind fun w => some (w, u.2)
  | .bl false => some (.bl false, y.2)
  | _ => none
end

/-! ### lists of expressions -/
def eNil : LF := fun ρ => some ([], ρ)
def eCons (a : EF) (r : LF) : LF := fun ρ => (a ρ).bind fun x => (r x.2).bind fun y => some (x.1 :: y.1, y.2)
def tA (O : List Kd) (f : LF) : TA := fun σ H Q => ∃ F ρ p ρ', StOk O ρ σ H F ∧ f ρ = some (p, ρ') ∧ ∀ vs H' F', PoE O ρ σ H F ρ' H' F' → Reps F' p vs → Q vs H'
abbrev RA (X : Cx) (O : List Kd) (es : List Expr) (f : LF) : Prop := PA X es (tA O f)
theorem pa_imp {X : Cx} {es : List Expr} {t t' : TA} (h : PA X es t) (i : ∀ σ H Q, t' σ H Q → t σ H Q) : PA X es t' := ⟨fun pos pins s σ H Q I q => h.run pos pins s σ H Q I (i σ H Q q)⟩
theorem res_f {p : PV} {v : V} {H H' F' : Hp} {A : Addr → Prop} (h : Res false p v H H' F' A) : Rep F' p v := by
  rcases h with ⟨h, _⟩ | ⟨z, _⟩
  · exact h
  · cases z
section
variable {X : Cx} {O : List Kd} {a : Expr} {es : List Expr} {fa : EF} {fr : LF} {pos : Pos} {m : Bool}
theorem ra_nil : RA X O [] eNil := pa_imp pa_nil fun σ H Q ⟨F, ρ, p, ρ', st, hf, k⟩ => by
  cases hf
  exact k [] H F (PoE.refl st) .nil
theorem ra_cons (ha : RE X O false a fa) (hr : RA X O es fr) (hs : starEach (a :: es) X.env = (false, eval a X.env) :: starEach es X.env := by rfl) : RA X O (a :: es) (eCons fa fr) :=
  pa_imp (pa_cons ha hr hs) fun σ H Q ⟨F, ρ, p, ρ', st, hf, k⟩ => by
    obtain ⟨⟨x, ρ1⟩, h1, hf⟩ := bind_some hf
    obtain ⟨⟨y, ρ2⟩, h2, hf⟩ := bind_some hf
    cases hf
    exact ⟨F, ρ, x, ρ1, st, h1, fun v H1 F1 po1 rs => ⟨F1, ρ1, y, ρ2, po1.st, h2, fun vs H2 F2 po2 rs2 => k _ H2 F2 (po1.trans po2) (.cons ((res_f rs).mono po2.fr.ex) rs2)⟩⟩
/-- the most that a written or made sequence holds -/
abbrev LIM : Nat := 16000000
theorem lim_ok {n : Nat} (h : n ≤ LIM) : n ≤ sizeLine := by have h' : n ≤ 16000000 := h; rw [sizeLine_eq]; omega
theorem lim_lt {n : Nat} (h : n < LIM) : n < sizeLine := by have h' : n < 16000000 := h; rw [sizeLine_eq]; omega
def eTup (f : LF) : EF := fun ρ => (f ρ).bind fun x => if x.1.length ≤ LIM then some (.tup x.1, x.2) else none
def eLst (f : LF) : EF := fun ρ => (f ρ).bind fun x => if x.1.length ≤ LIM then some (.lst x.1, x.2) else none
theorem ite_some {α : Type} {c : Prop} [Decidable c] {x z : α} (h : (if c then some x else none) = some z) : c ∧ x = z := by
  by_cases hc : c
  · rw [if_pos hc] at h; exact ⟨hc, Option.some.inj h⟩
  · rw [if_neg hc] at h; cases h
theorem re_tup {x1} (h : RA X O es fr) : RE X O m (.Tuple es x1 pos) (eTup fr) :=
  pe_imp (pe_tup h) fun σ H Q ⟨F, ρ, p, ρ', st, hf, k⟩ => by
    obtain ⟨⟨x, ρ1⟩, h1, hf⟩ := bind_some hf
    obtain ⟨hl, hf⟩ := ite_some hf
    cases hf
    refine ⟨F, ρ, x, _, st, h1, fun vs H1 F1 po1 rs => ⟨by rw [← rs.length]; exact lim_ok hl, fun q hq => ?_⟩⟩
    have hF := po1.st.sub.nil hq
    exact k _ _ (upd F1 q (.tup vs)) (po1.trans ⟨po1.st.newF hq, Frm.newF hq hF, EK.refl _ _⟩) (.inl ⟨.ref upd_same (.tup (rs.mono (Ex.new hF)) (lim_ok hl)), fun _ => rfl⟩)
theorem re_lst (h : RA X O es fr) : RE X O true (.List es pos) (eLst fr) :=
  pe_imp (pe_lst h) fun σ H Q ⟨F, ρ, p, ρ', st, hf, k⟩ => by
    obtain ⟨⟨x, ρ1⟩, h1, hf⟩ := bind_some hf
    obtain ⟨hl, hf⟩ := ite_some hf
    cases hf
    refine ⟨F, ρ, x, _, st, h1, fun vs H1 F1 po1 rs => ⟨by rw [← rs.length]; exact lim_ok hl, fun q hq => ?_⟩⟩
    have hF := po1.st.sub.nil hq
    exact k _ _ F1 (po1.trans ⟨po1.st.new hq, Frm.new hq, EK.refl _ _⟩) (.inr ⟨rfl, rfl, q, _, rfl, upd_same, hF, .lst rs (lim_ok hl), po1.fr.back hq, fun z => (z.there po1.st).1 hq⟩)
end
end Pv

/-! Pv2: operations on plain values: arithmetic, order, equality, membership, subscripts. -/
noncomputable section
namespace Pv
open PySem PySem.Spec PyProof.Rows L2

section
variable {F H : Hp} {v : V}
theorem rdv_int {b : Int} (h : RdV (.int b) v H F) : v = .int b := by
  rcases h with h | ⟨m, _⟩
  · exact rep_int h
  · cases m
theorem rdv_bl {b : Bool} (h : RdV (.bl b) v H F) : v = .bl b := by
  rcases h with h | ⟨m, _⟩
  · exact rep_bl h
  · cases m
theorem rdv_str {b : Str} (h : RdV (.str b) v H F) : v = .str b := by
  rcases h with h | ⟨m, _⟩
  · exact rep_str h
  · cases m
theorem rdv_non (h : RdV .non v H F) : v = .non := by
  rcases h with h | ⟨m, _⟩
  · exact rep_non h
  · cases m
theorem rdv_tup {ps : List PV} (s : Sub F H) (h : RdV (.tup ps) v H F) : ∃ a vs, v = .ref a ∧ F a = some (.tup vs) ∧ H a = some (.tup vs) ∧ Reps F ps vs ∧ ps.length ≤ sizeLine := by
  rcases h with h | ⟨m, _⟩
  · cases h with
    | ref e c => cases c with
      | tup r z => exact ⟨_, _, rfl, e, s.plain e rfl, r, z⟩
  · cases m
theorem rdv_lst {ps : List PV} (s : Sub F H) (h : RdV (.lst ps) v H F) : ∃ a vs, v = .ref a ∧ Rd H a (.lst vs) ∧ Reps F ps vs ∧ ps.length ≤ sizeLine := by
  rcases h with h | ⟨_, a, o, e, r, c⟩
  · cases h with
    | ref e c => cases c with
      | lst r z => exact ⟨_, _, rfl, s.rd e, r, z⟩
  · cases c with
    | lst r2 z => exact ⟨_, _, e, r, r2, z⟩
theorem rdv_dct {ps : List (Key × PV)} (s : Sub F H) (h : RdV (.dct ps) v H F) : ∃ a vs, v = .ref a ∧ Rd H a (.dK vs) ∧ RepK F ps vs ∧ ps.length ≤ sizeLine := by
  rcases h with h | ⟨_, a, o, e, r, c⟩
  · cases h with
    | ref e c => cases c with
      | dct r z => exact ⟨_, _, rfl, s.rd e, r, z⟩
  · cases c with
    | dct r2 z => exact ⟨_, _, e, r, r2, z⟩
theorem rdv_dtt {ps : List (List Key × PV)} (s : Sub F H) (h : RdV (.dtt ps) v H F) : ∃ a vs, v = .ref a ∧ Rd H a (.dT vs) ∧ RepT F ps vs ∧ ps.length ≤ sizeLine := by
  rcases h with h | ⟨_, a, o, e, r, c⟩
  · cases h with
    | ref e c => cases c with
      | dtt r z => exact ⟨_, _, rfl, s.rd e, r, z⟩
  · cases c with
    | dtt r2 z => exact ⟨_, _, e, r, r2, z⟩
end

/-! ### arithmetic -/
@[irreducible] def BM : Int := 2 ^ 4000000
@[irreducible] def BJ : Int := 2 ^ 8000
def mulG (i j : Int) : Prop := (-(2 ^ 64) < i ∧ i < 2 ^ 64) ∨ (-(2 ^ 64) < j ∧ j < 2 ^ 64) ∨ ((-BM < i ∧ i < BM) ∧ (-BM < j ∧ j < BM))
instance (i j : Int) : Decidable (mulG i j) := Classical.propDecidable _
theorem log_lt {i : Int} {n : Nat} (hn : 0 < n) (h : -(2 ^ n) < i ∧ i < 2 ^ n) : i.natAbs.log2 < n := by
  refine PySem.Flt.log2_lt_of hn ?_
  have e : ((2 ^ n : Nat) : Int) = 2 ^ n := by simp
  omega
theorem mulG.ok {i j : Int} (h : mulG i j) : IntMulOk i j := by
  rcases h with h | h | ⟨h1, h2⟩
  · exact CMul.ok (.inl h)
  · exact CMul.ok (.inr h)
  · unfold BM at h1 h2
    have b : ∀ x : Int, Builtin.Int.intBits x ≤ x.natAbs.log2 + 1 := fun x => by
      unfold Builtin.Int.intBits
      split <;> omega
    have l1 := log_lt (by decide) h1
    have l2 := log_lt (by decide) h2
    have b1 := b i
    have b2 := b j
    have e : bitsLine = 134217728 := by decide
    unfold IntMulOk
    intro z
    rw [Bool.and_eq_true] at z
    have z2 := z.2
    unfold Builtin.Int.intTooBig at z2
    have z3 := of_decide_eq_true z2
    rw [e] at z3
    omega
def pAdd : PV → PV → Option PV
  | .int a, .int b => some (.int (a + b))
  | .str a, .str b => if a.length + b.length ≤ LIM then some (.str (a ++ b)) else none
  | .tup a, .tup b => if a.length + b.length ≤ LIM then some (.tup (a ++ b)) else none
  | .lst a, .lst b => if a.length + b.length ≤ LIM then some (.lst (a ++ b)) else none
  | _, _ => none
def pSub : PV → PV → Option PV
  | .int a, .int b => some (.int (a - b))
  | _, _ => none
def pMul : PV → PV → Option PV
  | .int a, .int b => if mulG a b then some (.int (a * b)) else none
  | .lst a, .int b => if b ≤ 1000000 ∧ -1000000 ≤ b ∧ a.length * b.toNat ≤ LIM then some (.lst (List.replicate b.toNat a).flatten) else none
  | _, _ => none
def fdG (b : Int) : Prop := 0 < b ∧ b < BJ
instance (b : Int) : Decidable (fdG b) := Classical.propDecidable _
def pFdiv : PV → PV → Option PV
  | .int a, .int b => if fdG b then some (.int (a / b)) else none
  | _, _ => none
def pMod : PV → PV → Option PV
  | .int a, .int b => if 0 < b then some (.int (a % b)) else none
  | _, _ => none
def pPow : PV → PV → Option PV
  | .int a, .int b => if (0 ≤ b ∧ b ≤ 1000) ∧ (-1000000 ≤ a ∧ a ≤ 1000000) then some (.int (a ^ b.toNat)) else none
  | _, _ => none
def pXor : PV → PV → Option PV
  | .int a, .int b => some (.int (Builtin.bitXor a b))
  | _, _ => none
def pBand : PV → PV → Option PV
  | .int a, .int b => some (.int (Builtin.bitAnd a b))
  | _, _ => none
def pLt : PV → PV → Option PV
  | .int a, .int b => some (.bl (decide (a < b)))
  | _, _ => none
def pLe : PV → PV → Option PV
  | .int a, .int b => some (.bl (decide (a ≤ b)))
  | _, _ => none
def pGt : PV → PV → Option PV
  | .int a, .int b => some (.bl (decide (b < a)))
  | _, _ => none
def pGe : PV → PV → Option PV
  | .int a, .int b => some (.bl (decide (b ≤ a)))
  | _, _ => none
def pNeg : PV → Option PV
  | .int a => some (.int (-a))
  | _ => none
def isN : PV → Bool
  | .non => true
  | _ => false
def pIsN : PV → PV → Option PV
  | a, .non => some (.bl (isN a))
  | _, _ => none
def pNotN : PV → PV → Option PV
  | a, .non => some (.bl (!isN a))
  | _, _ => none

section
variable {X : Cx} {m : Bool}
theorem OpR.byp {f : Value → Value → Sem Value} {g : PV → PV → Option PV} {m : Bool} (h : ∀ p q z, g p q = some z → ∃ r, OpR X f r ∧ ∀ x y H F Q, Sub F H → RdV p x H F → RdV q y H F → (∀ v H', PRes m z v H F H' → Q v H') → r x y H Q) : OpR X f (r2 m g) := by
  intro pins s σ H x y v u Q I rx ry ⟨F, p, q, z, sub, e, hp, hq, k⟩
  obtain ⟨r, ho, hr⟩ := h p q z e
  exact ho pins s σ H x y v u Q I rx ry (hr x y H F Q sub hp hq k)
def rCatR : R2 := fun x y H Q => ∃ l b xs zs, x = .ref l ∧ y = .ref b ∧ Rd H l (.lst xs) ∧ Rd H b (.lst zs) ∧ xs.length + zs.length ≤ sizeLine ∧ ∀ p, H p = none → Q (.ref p) (upd H p (.lst (xs ++ zs)))
theorem rd_lst {pins : List (Addr × Obj)} {s : Shared} {σ : L2.St} {H : Hp} {l : Addr} {xs : List V} (I : Inv X pins σ H s) (hH : Rd H l (.lst xs)) : xs.length ≤ sizeLine ∧ ∃ (its : List Value) (n : Nat), Vals xs its ∧ xs.length = its.length ∧ s.heap.get? l = some { cls := .type "list", data := .seq its.toArray n } := by
  obtain ⟨z, its, n, r, e⟩ := hH.ok I.hok
  exact ⟨z, its, n, r, r.length, e⟩
theorem op_catR : OpR X (binaryOp .Add) rCatR := by
  intro pins s σ H x y v u Q I rx ry h
  obtain ⟨l, b, xs, zs, rfl, rfl, hH, hB, hz, q⟩ := h
  cases rx
  cases ry
  obtain ⟨z, its, n, r, hl, e⟩ := rd_lst I hH
  obtain ⟨z2, its2, n2, r2, hl2, e2⟩ := rd_lst I hB
  refine PySem.P.add_list e e2 ?_ (by rw [List.size_toArray, List.size_toArray]; omega)
  have ea : its.toArray ++ its2.toArray = (its ++ its2).toArray := by simp
  rw [ea]
  exact ⟨.ref _, _, I.lnew (t' := s.toks) (r.append r2) (by rw [List.length_append]; omega), rfl, q _ I.fresh⟩
def rRepR : R2 := fun x y H Q => ∃ l k xs, x = .ref l ∧ y = .int k ∧ Rd H l (.lst xs) ∧ -(2 ^ 63) ≤ k ∧ k < 2 ^ 63 ∧ xs.length * k.toNat ≤ sizeLine ∧
  ∀ p, H p = none → Q (.ref p) (upd H p (.lst (List.replicate k.toNat xs).flatten))
theorem op_repR : OpR X (binaryOp .Mult) rRepR := by
  intro pins s σ H x y v u Q I rx ry h
  obtain ⟨l, k, xs, rfl, rfl, hH, h1, h2, hz, q⟩ := h
  cases rx
  obtain ⟨t, rfl⟩ := ry
  obtain ⟨z, its, n, r, hl, e⟩ := rd_lst I hH
  have hlen : its.toArray.size * k.toNat ≤ sizeLine := by rw [List.size_toArray, ← hl]; exact hz
  have hcap : ¬ its.toArray.size * k.toNat > (2 ^ 63 - 1) / 8 := by
    have : (sizeLine : Nat) ≤ (2 ^ 63 - 1) / 8 := by decide
    omega
  have hfit : ¬ (!Builtin.List.listFitsIndex k) = true := by
    rw [fitsIndex_both h1 h2]
    exact Bool.false_ne_true
  have hlong : ¬ Builtin.List.listTooLong (its.toArray.size * k.toNat) = true := by
    rw [notLongL hlen]
    exact Bool.false_ne_true
  have hnew : List.foldl (fun x1 x2 => x1 ++ x2) #[] (List.replicate (if its.toArray.isEmpty = true then 0 else k.toNat) its.toArray) = (List.replicate k.toNat its).flatten.toArray := by
    have f0 : ∀ m : Nat, List.foldl (fun x1 x2 => x1 ++ x2) #[] (List.replicate m its.toArray) = (List.replicate m its).flatten.toArray := fun m => by
      have := foldl_rep its m []
      rw [List.nil_append] at this
      exact this
    rw [f0]
    cases its with
    | nil => simp
    | cons a r' => rw [if_neg (by simp)]
  refine wpAny_binaryOp_repeat_ref (T := "list") (U := "int") (by decide) ⟨_, e, rfl⟩ (fun s' => typeIs_int s' k t) noFill_list_mul F.fills_int_mul F.slot_int_rmul repeat_list F.slot_int_index.lookup
    (call_meets F.slot_int_rmul (typeIs_int s k t) F.entry_int_rmul (F.args_int_rmul_2 _ _) (int___rmul___int_list k t l its.toArray n)
      ⟨e, rfl, ⟨_, e, rfl⟩, call_meets F.slot_list_mul ⟨_, e, rfl⟩ F.entry_list_mul (F.args_list_mul_2 _ _) (AutoListH.list___mul___list_int_3 l its.toArray n k t hfit hcap hlong) ⟨e, ?_⟩⟩)
  rw [hnew]
  exact ⟨.ref _, _, I.lnew (t' := s.toks) (r.rep k.toNat) (by rw [PyProof.Rows.lm_len_rep_flat, Nat.mul_comm]; exact hz), rfl, q _ I.fresh⟩
theorem Reps.rep {F : Hp} {ps : List PV} {vs : List V} (r : Reps F ps vs) : ∀ k : Nat, Reps F (List.replicate k ps).flatten (List.replicate k vs).flatten
  | 0 => .nil
  | k + 1 => by
    rw [List.replicate_succ, List.replicate_succ, List.flatten_cons, List.flatten_cons]
    exact r.append (Reps.rep r k)
theorem len_rep {α : Type} (xs : List α) (k : Nat) : (List.replicate k xs).flatten.length = xs.length * k := by
  rw [PyProof.Rows.lm_len_rep_flat, Nat.mul_comm]

theorem o_add : OpR X (binaryOp .Add) (r2 m pAdd) := OpR.byp fun p q z e => by
  unfold pAdd at e
  split at e
  · cases e
    exact ⟨_, op_add, fun x y H F Q sub hp hq k => ⟨_, _, rdv_int hp, rdv_int hq, k _ H (.inl ⟨rfl, .int _, fun _ => rfl⟩)⟩⟩
  · obtain ⟨hl, rfl⟩ := ite_some e
    exact ⟨_, op_add_str, fun x y H F Q sub hp hq k => ⟨_, _, rdv_str hp, rdv_str hq, lim_ok hl, k _ H (.inl ⟨rfl, .str _, fun _ => rfl⟩)⟩⟩
  · obtain ⟨hl, rfl⟩ := ite_some e
    refine ⟨_, op_catA, fun x y H F Q sub hp hq k => ?_⟩
    obtain ⟨a, vs, rfl, fa, ha, ra, la⟩ := rdv_tup sub hp
    obtain ⟨b, us, rfl, fb, hb, rb, lb⟩ := rdv_tup sub hq
    refine ⟨a, b, vs, us, rfl, rfl, .inl (.inl ha), .inl (.inl hb), by rw [← ra.length, ← rb.length]; exact lim_ok hl, fun e => ?_, fun _ e => ?_, fun _ _ p hp => ?_⟩
    · subst e
      cases ra
      exact k _ H (.inl ⟨rfl, .ref fb (.tup rb lb), fun _ => rfl⟩)
    · subst e
      cases rb
      rw [List.append_nil] at k
      exact k _ H (.inl ⟨rfl, .ref fa (.tup ra la), fun _ => rfl⟩)
    · exact k _ _ (.inr ⟨p, _, rfl, hp, rfl, .tup (ra.append rb) (by rw [List.length_append]; exact lim_ok hl)⟩)
  · obtain ⟨hl, rfl⟩ := ite_some e
    refine ⟨_, op_catR, fun x y H F Q sub hp hq k => ?_⟩
    obtain ⟨a, vs, rfl, ha, ra, la⟩ := rdv_lst sub hp
    obtain ⟨b, us, rfl, hb, rb, lb⟩ := rdv_lst sub hq
    exact ⟨a, b, vs, us, rfl, rfl, ha, hb, by rw [← ra.length, ← rb.length]; exact lim_ok hl, fun p hp => k _ _ (.inr ⟨p, _, rfl, hp, rfl, .lst (ra.append rb) (by rw [List.length_append]; exact lim_ok hl)⟩)⟩
  · cases e
theorem o_sub : OpR X (binaryOp .Sub) (r2 m pSub) := OpR.byp fun p q z e => by
  unfold pSub at e
  split at e
  · cases e
    exact ⟨_, op_sub, fun x y H F Q sub hp hq k => ⟨_, _, rdv_int hp, rdv_int hq, k _ H (.inl ⟨rfl, .int _, fun _ => rfl⟩)⟩⟩
  · cases e
theorem op_mulG : OpR X (binaryOp .Mult) (rI mulG fun i j => .int (i * j)) := opI fun _ _ _ _ _ _ _ hc q => mul_int q hc.ok
theorem o_mul : OpR X (binaryOp .Mult) (r2 m pMul) := OpR.byp fun p q z e => by
  unfold pMul at e
  split at e
  · obtain ⟨hl, rfl⟩ := ite_some e
    exact ⟨_, op_mulG, fun x y H F Q sub hp hq k => ⟨_, _, rdv_int hp, rdv_int hq, hl, k _ H (.inl ⟨rfl, .int _, fun _ => rfl⟩)⟩⟩
  · obtain ⟨⟨h1, h2, h3⟩, rfl⟩ := ite_some e
    refine ⟨_, op_repR, fun x y H F Q sub hp hq k => ?_⟩
    obtain ⟨a, vs, rfl, ha, ra, la⟩ := rdv_lst sub hp
    exact ⟨a, _, vs, rfl, rdv_int hq, ha, by omega, by omega, by rw [← ra.length]; exact lim_ok h3, fun p hp => k _ _ (.inr ⟨p, _, rfl, hp, rfl, .lst (ra.rep _) (by rw [len_rep]; exact lim_ok h3)⟩)⟩
  · cases e
theorem o_fdiv : OpR X (binaryOp .FloorDiv) (r2 m pFdiv) := OpR.byp fun p q z e => by
  unfold pFdiv at e
  split at e
  · obtain ⟨⟨h0, h1⟩, rfl⟩ := ite_some e
    refine ⟨_, op_fdivW, fun x y H F Q sub hp hq k => ⟨_, _, rdv_int hp, rdv_int hq, ⟨h0, ?_⟩, k _ H (.inl ⟨rfl, .int _, fun _ => rfl⟩)⟩⟩
    unfold BJ at h1
    exact Nat.lt_trans (log_lt (n := 8000) (by decide) ⟨by omega, h1⟩) (by decide)
  · cases e
theorem o_mod : OpR X (binaryOp .Mod) (r2 m pMod) := OpR.byp fun p q z e => by
  unfold pMod at e
  split at e
  · obtain ⟨h0, rfl⟩ := ite_some e
    exact ⟨_, op_mod, fun x y H F Q sub hp hq k => ⟨_, _, rdv_int hp, rdv_int hq, h0, k _ H (.inl ⟨rfl, .int _, fun _ => rfl⟩)⟩⟩
  · cases e
theorem o_pow : OpR X (binaryOp .Pow) (r2 m pPow) := OpR.byp fun p q z e => by
  unfold pPow at e
  split at e
  · obtain ⟨⟨⟨h0, h1⟩, h2, h3⟩, rfl⟩ := ite_some e
    exact ⟨_, op_pow, fun x y H F Q sub hp hq k => ⟨_, _, rdv_int hp, rdv_int hq, ⟨h0, by omega, by omega⟩, k _ H (.inl ⟨rfl, .int _, fun _ => rfl⟩)⟩⟩
  · cases e
theorem o_xor : OpR X (binaryOp .BitXor) (r2 m pXor) := OpR.byp fun p q z e => by
  unfold pXor at e
  split at e
  · cases e
    exact ⟨_, op_xor, fun x y H F Q sub hp hq k => ⟨_, _, rdv_int hp, rdv_int hq, k _ H (.inl ⟨rfl, .int _, fun _ => rfl⟩)⟩⟩
  · cases e
theorem o_band : OpR X (binaryOp .BitAnd) (r2 m pBand) := OpR.byp fun p q z e => by
  unfold pBand at e
  split at e
  · cases e
    exact ⟨_, op_and, fun x y H F Q sub hp hq k => ⟨_, _, rdv_int hp, rdv_int hq, k _ H (.inl ⟨rfl, .int _, fun _ => rfl⟩)⟩⟩
  · cases e
theorem o_lt : OpR X (compareOp .Lt) (r2 m pLt) := OpR.byp fun p q z e => by
  unfold pLt at e
  split at e
  · cases e
    exact ⟨_, op_lt, fun x y H F Q sub hp hq k => ⟨_, _, rdv_int hp, rdv_int hq, k _ H (.inl ⟨rfl, .bl _, fun _ => rfl⟩)⟩⟩
  · cases e
theorem o_le : OpR X (compareOp .LtE) (r2 m pLe) := OpR.byp fun p q z e => by
  unfold pLe at e
  split at e
  · cases e
    exact ⟨_, op_le, fun x y H F Q sub hp hq k => ⟨_, _, rdv_int hp, rdv_int hq, k _ H (.inl ⟨rfl, .bl _, fun _ => rfl⟩)⟩⟩
  · cases e
theorem o_gt : OpR X (compareOp .Gt) (r2 m pGt) := OpR.byp fun p q z e => by
  unfold pGt at e
  split at e
  · cases e
    exact ⟨_, op_gt, fun x y H F Q sub hp hq k => ⟨_, _, rdv_int hp, rdv_int hq, k _ H (.inl ⟨rfl, .bl _, fun _ => rfl⟩)⟩⟩
  · cases e
theorem o_ge : OpR X (compareOp .GtE) (r2 m pGe) := OpR.byp fun p q z e => by
  unfold pGe at e
  split at e
  · cases e
    exact ⟨_, op_ge, fun x y H F Q sub hp hq k => ⟨_, _, rdv_int hp, rdv_int hq, k _ H (.inl ⟨rfl, .bl _, fun _ => rfl⟩)⟩⟩
  · cases e
theorem o_neg : UnR X (unaryOp .USub) (r1 m pNeg) := by
  intro pins s σ H x v Q I rx ⟨F, p, z, sub, e, hp, k⟩
  unfold pNeg at e
  split at e
  · cases e
    exact un_neg pins s σ H x v Q I rx ⟨_, rdv_int hp, k _ H (.inl ⟨rfl, .int _, fun _ => rfl⟩)⟩
  · cases e
theorem rdv_isN {p : PV} {v : V} {H F : Hp} (h : RdV p v H F) : decide (v = .non) = isN p := by
  rcases h with h | ⟨m, a, o, e, _⟩
  · cases h <;> first | rfl | (rename_i c; cases c <;> rfl)
  · subst e
    cases p <;> first | rfl | cases m
theorem o_isN : OpR X (compareOp .Is) (r2 m pIsN) := OpR.byp fun p q z e => by
  unfold pIsN at e
  split at e
  · cases e
    exact ⟨_, op_isN, fun x y H F Q sub hp hq k => ⟨rdv_non hq, by rw [rdv_isN hp]; exact k _ H (.inl ⟨rfl, .bl _, fun _ => rfl⟩)⟩⟩
  · cases e
theorem o_notN : OpR X (compareOp .IsNot) (r2 m pNotN) := OpR.byp fun p q z e => by
  unfold pNotN at e
  split at e
  · cases e
    exact ⟨_, op_notN, fun x y H F Q sub hp hq k => ⟨rdv_non hq, by rw [rdv_isN hp]; exact k _ H (.inl ⟨rfl, .bl _, fun _ => rfl⟩)⟩⟩
  · cases e
end

/-! ### equality -/
mutual
def peq : PV → PV → Bool
  | .non, .non => true
  | .bl a, .bl b => a == b
  | .bl a, .int j => (if a then 1 else 0) == j
  | .int i, .bl b => i == (if b then 1 else 0)
  | .int i, .int j => i == j
  | .str x, .str y => x == y
  | .tup xs, .tup ys => peqs xs ys
  | .lst xs, .lst ys => peqs xs ys
  | _, _ => false
def peqs : List PV → List PV → Bool
  | [], [] => true
  | x :: xs, y :: ys => peq x y && peqs xs ys
  | _, _ => false
end
mutual
def toD : PV → PyData
  | .non => .none
  | .bl b => .bool b
  | .int i => .int i
  | .str x => .str x
  | .tup xs => .tuple (toDs xs)
  | .lst xs => .list (toDs xs)
  | .dct _ => .dict []
  | .dtt _ => .dict []
def toDs : List PV → List PyData
  | [] => []
  | x :: xs => toD x :: toDs xs
end
/-! data of at most that depth, without a dict -/
mutual
def dt : Nat → PV → Bool
  | _, .non => true
  | _, .bl _ => true
  | _, .int _ => true
  | _, .str x => PyData.strOk x
  | 0, .tup _ => false
  | n + 1, .tup xs => dts n xs
  | 0, .lst _ => false
  | n + 1, .lst xs => dts n xs
  | _, .dct _ => false
  | _, .dtt _ => false
def dts : Nat → List PV → Bool
  | _, [] => true
  | n, x :: xs => dt n x && dts n xs
end
mutual
theorem dt_lay : ∀ (p : PV) (n : Nat), dt n p = true → (toD p).canLay0 = true ∧ (toD p).depth ≤ n
  | .non, n, _ => ⟨rfl, Nat.zero_le _⟩
  | .bl _, n, _ => ⟨rfl, Nat.zero_le _⟩
  | .int _, n, _ => ⟨rfl, Nat.zero_le _⟩
  | .str x, n, h => ⟨by cases n <;> exact h, Nat.zero_le _⟩
  | .tup xs, 0, h => by simp [dt] at h
  | .tup xs, n + 1, h => by
    obtain ⟨h1, h2⟩ := dts_lay xs n h
    exact ⟨h1, Nat.succ_le_succ h2⟩
  | .lst xs, 0, h => by simp [dt] at h
  | .lst xs, n + 1, h => by
    obtain ⟨h1, h2⟩ := dts_lay xs n h
    exact ⟨h1, Nat.succ_le_succ h2⟩
  | .dct _, n, h => by cases n <;> simp [dt] at h
  | .dtt _, n, h => by cases n <;> simp [dt] at h
theorem dts_lay : ∀ (ps : List PV) (n : Nat), dts n ps = true → PyData.canLayAll0 (toDs ps) = true ∧ PyData.depthAll (toDs ps) ≤ n
  | [], n, _ => ⟨rfl, Nat.zero_le _⟩
  | x :: xs, n, h => by
    have h' : (dt n x && dts n xs) = true := h
    rw [Bool.and_eq_true] at h'
    obtain ⟨a1, a2⟩ := dt_lay x n h'.1
    obtain ⟨b1, b2⟩ := dts_lay xs n h'.2
    refine ⟨?_, Nat.max_le.mpr ⟨a2, b2⟩⟩
    show ((toD x).canLay0 && PyData.canLayAll0 (toDs xs)) = true
    rw [a1, b1]; rfl
end
theorem dt_shaped {p : PV} {n : Nat} (h : dt n p = true) (hn : n ≤ 64) : SeqAt.shaped (toD p) = true := by
  obtain ⟨a, b⟩ := dt_lay p n h
  unfold SeqAt.shaped
  rw [a, decide_eq_true (Nat.le_trans b hn)]; rfl
mutual
theorem peq_eqv : ∀ (p q : PV) (n m : Nat), dt n p = true → dt m q = true → PyData.eqv (toD p) (toD q) = peq p q
  | .non, q, n, m, h1, h2 => by cases q <;> first | rfl | (cases m <;> simp [dt] at h2)
  | .bl a, q, n, m, h1, h2 => by cases q <;> first | rfl | (cases m <;> simp [dt] at h2)
  | .int a, q, n, m, h1, h2 => by cases q <;> first | rfl | (cases m <;> simp [dt] at h2)
  | .str a, q, n, m, h1, h2 => by cases q <;> first | rfl | (cases m <;> simp [dt] at h2)
  | .tup xs, .tup ys, n + 1, m + 1, h1, h2 => peqs_eqv xs ys n m h1 h2
  | .lst xs, .lst ys, n + 1, m + 1, h1, h2 => peqs_eqv xs ys n m h1 h2
  | .tup xs, .tup ys, 0, m, h1, h2 => by simp [dt] at h1
  | .tup xs, .tup ys, n + 1, 0, h1, h2 => by simp [dt] at h2
  | .lst xs, .lst ys, 0, m, h1, h2 => by simp [dt] at h1
  | .lst xs, .lst ys, n + 1, 0, h1, h2 => by simp [dt] at h2
  | .tup xs, .non, _, _, _, _ => rfl
  | .tup xs, .bl _, _, _, _, _ => rfl
  | .tup xs, .int _, _, _, _, _ => rfl
  | .tup xs, .str _, _, _, _, _ => rfl
  | .tup xs, .lst _, _, _, _, _ => rfl
  | .tup xs, .dct _, _, m, _, h2 => by cases m <;> simp [dt] at h2
  | .tup xs, .dtt _, _, m, _, h2 => by cases m <;> simp [dt] at h2
  | .lst xs, .non, _, _, _, _ => rfl
  | .lst xs, .bl _, _, _, _, _ => rfl
  | .lst xs, .int _, _, _, _, _ => rfl
  | .lst xs, .str _, _, _, _, _ => rfl
  | .lst xs, .tup _, _, _, _, _ => rfl
  | .lst xs, .dct _, _, m, _, h2 => by cases m <;> simp [dt] at h2
  | .lst xs, .dtt _, _, m, _, h2 => by cases m <;> simp [dt] at h2
  | .dct _, q, n, _, h1, _ => by cases n <;> simp [dt] at h1
  | .dtt _, q, n, _, h1, _ => by cases n <;> simp [dt] at h1
theorem peqs_eqv : ∀ (ps qs : List PV) (n m : Nat), dts n ps = true → dts m qs = true → PyData.eqvAll (toDs ps) (toDs qs) = peqs ps qs
  | [], [], _, _, _, _ => rfl
  | [], _ :: _, _, _, _, _ => rfl
  | _ :: _, [], _, _, _, _ => rfl
  | x :: xs, y :: ys, n, m, h1, h2 => by
    have h1' : (dt n x && dts n xs) = true := h1
    have h2' : (dt m y && dts m ys) = true := h2
    rw [Bool.and_eq_true] at h1' h2'
    show (PyData.eqv (toD x) (toD y) && PyData.eqvAll (toDs xs) (toDs ys)) = (peq x y && peqs xs ys)
    rw [peq_eqv x y n m h1'.1 h2'.1, peqs_eqv xs ys n m h1'.2 h2'.2]
end
section
variable {K : PySem.W.Frag} {F H : Hp}
mutual
theorem dp_rep (s : Sub F H) : ∀ (p : PV) (v : V) (n : Nat), dt n p = true → Rep F p v → Dp K H v (toD p)
  | .non, v, n, _, r => by rw [rep_non r]; exact .non
  | .bl b, v, n, _, r => by rw [rep_bl r]; exact .bl b
  | .int b, v, n, _, r => by rw [rep_int r]; exact .int b
  | .str b, v, n, _, r => by rw [rep_str r]; exact .str b
  | .tup xs, v, 0, h, r => by simp [dt] at h
  | .lst xs, v, 0, h, r => by simp [dt] at h
  | .tup xs, v, n + 1, h, r => by
    cases r with
    | ref e c => cases c with
      | tup r z => exact .tup (.inl (s.rd e)) (dp_reps s xs _ n h r)
  | .lst xs, v, n + 1, h, r => by
    cases r with
    | ref e c => cases c with
      | lst r z => exact .lst (.inl (s.rd e)) (dp_reps s xs _ n h r)
  | .dct _, v, n, h, r => by cases n <;> simp [dt] at h
  | .dtt _, v, n, h, r => by cases n <;> simp [dt] at h
theorem dp_reps (s : Sub F H) : ∀ (ps : List PV) (vs : List V) (n : Nat), dts n ps = true → Reps F ps vs → DpAll K H vs (toDs ps)
  | [], _, n, _, r => by cases r; exact .nil
  | x :: xs, _, n, h, r => by
    have h' : (dt n x && dts n xs) = true := h
    rw [Bool.and_eq_true] at h'
    cases r with
    | cons r1 r2 => exact .cons (dp_rep s x _ n h'.1 r1) (dp_reps s xs _ n h'.2 r2)
end
theorem dp_rdv (s : Sub F H) {p : PV} {v : V} {n : Nat} (h : dt n p = true) (r : RdV p v H F) : Dp K H v (toD p) := by
  rcases r with r | ⟨m, a, o, e, r, c⟩
  · exact dp_rep s p v n h r
  · subst e
    cases c with
    | tup _ _ => cases m
    | lst rs z =>
      cases n with
      | zero => simp [dt] at h
      | succ n => exact .lst (.inl r) (dp_reps s _ _ n h rs)
    | dct _ _ => cases n <;> simp [dt] at h
    | dtt _ _ => cases n <;> simp [dt] at h
end
/-- both are data -/
def dts2 (p q : PV) : Bool := dt 40 p && dt 40 q
def sc2 : PV → PV → Bool
  | .str _, .str _ => true
  | .str _, .non => true
  | .non, .str _ => true
  | .str _, .int _ => true
  | .int _, .str _ => true
  | _, _ => false
def pEq (p q : PV) : Option PV := if sc2 p q || dts2 p q then some (.bl (peq p q)) else none
def pNe (p q : PV) : Option PV := if sc2 p q || dts2 p q then some (.bl (!peq p q)) else none
/-- x in a list or tuple | in a text | in a dict -/
def key1 : PV → Option Key
  | .int i => some (.inl i)
  | .str x => some (.inr x)
  | _ => none
def keys : List PV → Option (List Key)
  | [] => some []
  | p :: ps => (key1 p).bind fun k => (keys ps).bind fun r => some (k :: r)
def keyT : PV → Option (List Key)
  | .tup xs => keys xs
  | _ => none
def valP {κ : Type} [DecidableEq κ] (kvs : List (κ × PV)) (k : κ) : Option PV := (kvs.find? fun kv => decide (kv.1 = k)).map (·.2)
def pInB (p : PV) : PV → Option Bool
  | .lst xs => if dt 40 p && dts 39 xs then some (xs.any fun z => peq z p) else none
  | .tup xs => if dt 40 p && dts 39 xs then some (xs.any fun z => peq z p) else none
  | .dct kvs => (key1 p).bind fun k => some (valP kvs k).isSome
  | .dtt kvs => (keyT p).bind fun k => some (valP kvs k).isSome
  | _ => none
def pIn (p q : PV) : Option PV := (pInB p q).map PV.bl
def pNotIn (p q : PV) : Option PV := (pInB p q).map fun b => PV.bl (!b)
section
variable {X : Cx} {m : Bool}
theorem o_eq (hu : X.A.units + 64 < cLine) : OpR X (compareOp .Eq) (r2 m pEq) := OpR.byp fun p q z e => by
  unfold pEq at e
  obtain ⟨h, rfl⟩ := ite_some e
  rw [Bool.or_eq_true] at h
  rcases h with h | h
  · cases p <;> cases q <;> first | cases h | skip
    all_goals refine ⟨_, op_eq, fun x y H F Q sub hp hq k => ?_⟩
    · rw [rdv_non hp, rdv_str hq]; exact ⟨rfl, k _ H (.inl ⟨rfl, .bl _, fun _ => rfl⟩)⟩
    · rw [rdv_int hp, rdv_str hq]; exact ⟨rfl, k _ H (.inl ⟨rfl, .bl _, fun _ => rfl⟩)⟩
    · rw [rdv_str hp, rdv_non hq]; exact ⟨rfl, k _ H (.inl ⟨rfl, .bl _, fun _ => rfl⟩)⟩
    · rw [rdv_str hp, rdv_int hq]; exact ⟨rfl, k _ H (.inl ⟨rfl, .bl _, fun _ => rfl⟩)⟩
    · rw [rdv_str hp, rdv_str hq]
      refine ⟨rfl, ?_⟩
      rw [dec_str]
      exact k _ H (.inl ⟨rfl, .bl _, fun _ => rfl⟩)
  · have h' : (dt 40 p && dt 40 q) = true := h
    rw [Bool.and_eq_true] at h'
    exact ⟨_, op_eqD hu, fun x y H F Q sub hp hq k => ⟨_, _, dp_rdv sub h'.1 hp, dp_rdv sub h'.2 hq, dt_shaped h'.1 (by decide), dt_shaped h'.2 (by decide), by
      rw [peq_eqv p q 40 40 h'.1 h'.2]; exact k _ H (.inl ⟨rfl, .bl _, fun _ => rfl⟩)⟩⟩
theorem o_ne (hu : X.A.units + 64 < cLine) : OpR X (compareOp .NotEq) (r2 m pNe) := OpR.byp fun p q z e => by
  unfold pNe at e
  obtain ⟨h, rfl⟩ := ite_some e
  rw [Bool.or_eq_true] at h
  rcases h with h | h
  · cases p <;> cases q <;> first | cases h | skip
    all_goals refine ⟨_, op_ne, fun x y H F Q sub hp hq k => ?_⟩
    · rw [rdv_non hp, rdv_str hq]; exact ⟨rfl, k _ H (.inl ⟨rfl, .bl _, fun _ => rfl⟩)⟩
    · rw [rdv_int hp, rdv_str hq]; exact ⟨rfl, k _ H (.inl ⟨rfl, .bl _, fun _ => rfl⟩)⟩
    · rw [rdv_str hp, rdv_non hq]; exact ⟨rfl, k _ H (.inl ⟨rfl, .bl _, fun _ => rfl⟩)⟩
    · rw [rdv_str hp, rdv_int hq]; exact ⟨rfl, k _ H (.inl ⟨rfl, .bl _, fun _ => rfl⟩)⟩
    · rw [rdv_str hp, rdv_str hq]
      refine ⟨rfl, ?_⟩
      rw [dec_str]
      exact k _ H (.inl ⟨rfl, .bl _, fun _ => rfl⟩)
  · have h' : (dt 40 p && dt 40 q) = true := h
    rw [Bool.and_eq_true] at h'
    exact ⟨_, op_neD hu, fun x y H F Q sub hp hq k => ⟨_, _, dp_rdv sub h'.1 hp, dp_rdv sub h'.2 hq, dt_shaped h'.1 (by decide), dt_shaped h'.2 (by decide), by
      rw [peq_eqv p q 40 40 h'.1 h'.2]; exact k _ H (.inl ⟨rfl, .bl _, fun _ => rfl⟩)⟩⟩
end
end Pv

/-! Pv3: membership, subscripts, slices, calls of built-ins by plain values. -/
noncomputable section
namespace Pv
open PySem PySem.Spec PyProof.Rows L2

/-! ### dicts -/
section
variable {F H : Hp}
theorem valP_cons {κ : Type} [DecidableEq κ] (k j : κ) (p : PV) (r : List (κ × PV)) : valP ((k, p) :: r) j = if k = j then some p else valP r j := by
  unfold valP
  rw [List.find?_cons]
  by_cases e : k = j
  · simp [e]
  · simp [e]
theorem valV_cons {κ : Type} [DecidableEq κ] (k j : κ) (p : V) (r : List (κ × V)) : valV ((k, p) :: r) j = if k = j then some p else valV r j := by
  unfold valV
  rw [List.find?_cons]
  by_cases e : k = j
  · simp [e]
  · simp [e]
theorem RepK.val {k : Key} : ∀ {kvs : List (Key × PV)} {vs : List (Key × V)}, RepK F kvs vs → (∀ p, valP kvs k = some p → ∃ v, valV vs k = some v ∧ Rep F p v) ∧ (valP kvs k = none → valV vs k = none)
  | _, _, .nil => ⟨fun p h => by simp [valP] at h, fun _ => rfl⟩
  | _, _, .cons (k := j) (p := q) r t => by
    obtain ⟨h1, h2⟩ := RepK.val (k := k) t
    refine ⟨fun p h => ?_, fun h => ?_⟩
    · rw [valP_cons] at h
      rw [valV_cons]
      by_cases e : j = k
      · rw [if_pos e] at h ⊢; cases h; exact ⟨_, rfl, r⟩
      · rw [if_neg e] at h ⊢; exact h1 p h
    · rw [valP_cons] at h
      rw [valV_cons]
      by_cases e : j = k
      · rw [if_pos e] at h; cases h
      · rw [if_neg e] at h ⊢; exact h2 h
theorem RepT.val {k : List Key} : ∀ {kvs : List (List Key × PV)} {vs : List (List Key × V)}, RepT F kvs vs → (∀ p, valP kvs k = some p → ∃ v, valV vs k = some v ∧ Rep F p v) ∧ (valP kvs k = none → valV vs k = none)
  | _, _, .nil => ⟨fun p h => by simp [valP] at h, fun _ => rfl⟩
  | _, _, .cons (k := j) (p := q) r t => by
    obtain ⟨h1, h2⟩ := RepT.val (k := k) t
    refine ⟨fun p h => ?_, fun h => ?_⟩
    · rw [valP_cons] at h
      rw [valV_cons]
      by_cases e : j = k
      · rw [if_pos e] at h ⊢; cases h; exact ⟨_, rfl, r⟩
      · rw [if_neg e] at h ⊢; exact h1 p h
    · rw [valP_cons] at h
      rw [valV_cons]
      by_cases e : j = k
      · rw [if_pos e] at h; cases h
      · rw [if_neg e] at h ⊢; exact h2 h
theorem RepK.isSome {k : Key} {kvs : List (Key × PV)} {vs : List (Key × V)} (r : RepK F kvs vs) : (valV vs k).isSome = (valP kvs k).isSome := by
  obtain ⟨h1, h2⟩ := r.val (k := k)
  cases e : valP kvs k with
  | none => rw [h2 e]; rfl
  | some p => obtain ⟨v, h, _⟩ := h1 p e; rw [h]; rfl
theorem RepT.isSome {k : List Key} {kvs : List (List Key × PV)} {vs : List (List Key × V)} (r : RepT F kvs vs) : (valV vs k).isSome = (valP kvs k).isSome := by
  obtain ⟨h1, h2⟩ := r.val (k := k)
  cases e : valP kvs k with
  | none => rw [h2 e]; rfl
  | some p => obtain ⟨v, h, _⟩ := h1 p e; rw [h]; rfl
theorem key1_rdv {p : PV} {k : Key} {v : V} (h : key1 p = some k) (r : RdV p v H F) : v = kV k := by
  cases p <;> simp [key1] at h
  · subst h; exact rdv_int r
  · subst h; exact rdv_str r
theorem key1_rep {p : PV} {k : Key} {v : V} (h : key1 p = some k) (r : Rep F p v) : v = kV k := by
  cases p <;> simp [key1] at h
  · subst h; exact rep_int r
  · subst h; exact rep_str r
theorem keys_reps : ∀ {ps : List PV} {ks : List Key} {vs : List V}, keys ps = some ks → Reps F ps vs → vs = ks.map kV
  | [], _, _, h, r => by cases h; cases r; rfl
  | p :: ps, _, _, h, r => by
    obtain ⟨k, h1, h⟩ := bind_some h
    obtain ⟨ks, h2, h⟩ := bind_some h
    cases h
    cases r with
    | cons r1 r2 => rw [key1_rep h1 r1, keys_reps h2 r2]; rfl
theorem keyT_rdv {p : PV} {k : List Key} {v : V} (s : Sub F H) (h : keyT p = some k) (r : RdV p v H F) : ∃ b, v = .ref b ∧ H b = some (.tup (k.map kV)) := by
  cases p <;> simp [keyT] at h
  obtain ⟨a, vs, rfl, _, ha, rs, _⟩ := rdv_tup s r
  rw [keys_reps h rs] at ha
  exact ⟨a, rfl, ha⟩
/-- what a dict gives for a key, by plain values -/
def pDget (p : PV) (q : PV) : Option (Option PV) :=
  match p with
  | .dct kvs => (key1 q).bind fun k => some (valP kvs k)
  | .dtt kvs => (keyT q).bind fun k => some (valP kvs k)
  | _ => none
theorem dget_rdv {p q : PV} {o : Option PV} {v u : V} (s : Sub F H) (h : pDget p q = some o) (hp : RdV p v H F) (hq : RdV q u H F) : ∃ a w, v = .ref a ∧ DGet H a u w ∧ (∀ z, o = some z → ∃ x, w = some x ∧ Rep F z x) ∧ (o = none → w = none) := by
  cases p <;> simp [pDget] at h
  · obtain ⟨k, h1, rfl⟩ := Option.map_eq_some_iff.mp (by simpa [Option.bind_eq_some_iff, Option.map_eq_some_iff] using h)
    obtain ⟨a, vs, rfl, ha, rs, _⟩ := rdv_dct s hp
    obtain ⟨r1, r2⟩ := rs.val (k := k)
    exact ⟨a, _, rfl, .inl ⟨vs, k, ha, key1_rdv h1 hq, rfl⟩, r1, r2⟩
  · obtain ⟨k, h1, rfl⟩ := Option.map_eq_some_iff.mp (by simpa [Option.bind_eq_some_iff, Option.map_eq_some_iff] using h)
    obtain ⟨a, vs, rfl, ha, rs, _⟩ := rdv_dtt s hp
    obtain ⟨b, rfl, hb⟩ := keyT_rdv s h1 hq
    obtain ⟨r1, r2⟩ := rs.val (k := k)
    exact ⟨a, _, rfl, .inr ⟨vs, k, b, ha, rfl, hb, rfl⟩, r1, r2⟩
end

section
variable {X : Cx} {m : Bool}
theorem room_shaped {X : Cx} {d : PyData} (sd : SeqAt.shaped d = true) (hu : X.A.units + 65 < cLine) {n : Nat} : X.A.units + 1 + min n d.depth < cLine := by
  unfold SeqAt.shaped at sd
  rw [Bool.and_eq_true] at sd
  have := of_decide_eq_true sd.2
  omega
theorem isD_in (hu : X.A.units + 65 < cLine) : OpR X (compareOp .In) (fun x y H Q => ∃ a o, y = .ref a ∧ DGet H a x o ∧ Q (.bl o.isSome) H) := by
  intro pins s σ H x y v u Q I rx ry ⟨a, o, e, g, q⟩
  subst e
  cases ry
  exact d_in (by omega) I g rx fun s' I' => ⟨.bl _, H, I', rfl, q⟩
theorem isD_notIn (hu : X.A.units + 65 < cLine) : OpR X (compareOp .NotIn) (fun x y H Q => ∃ a o, y = .ref a ∧ DGet H a x o ∧ Q (.bl (!o.isSome)) H) := by
  intro pins s σ H x y v u Q I rx ry ⟨a, o, e, g, q⟩
  subst e
  cases ry
  exact d_notIn (by omega) I g rx fun s' I' => ⟨.bl _, H, I', rfl, q⟩
def rInDt (K : PySem.W.Frag) (neg : Bool) : R2 := fun x y H Q => ∃ d ds, Dp K H x d ∧ Dp K H y (.tuple ds) ∧ SeqAt.shaped d = true ∧ SeqAt.shaped (.tuple ds) = true ∧ Q (.bl (if neg then !(ds.any fun z => PyData.eqv z d) else ds.any fun z => PyData.eqv z d)) H
theorem op_inDt (hu : X.A.units + 65 < cLine) : OpR X (compareOp .In) (rInDt X.K false) := by
  intro pins s σ H x y v u Q I rx ry h
  obtain ⟨d, ds, hd, he, sd, se, q⟩ := h
  obtain ⟨as, r1⟩ := Dp.reads I d x v hd rx
  obtain ⟨bs, r2⟩ := Dp.reads I (.tuple ds) y u he ry
  exact SeqAt.in_tuple_reads r2 r1 (SeqAt.canLay_of_shaped se) (SeqAt.canLay_of_shaped sd) (room_shaped sd hu) ⟨.bl _, H, I, rfl, q⟩
theorem op_notInDt (hu : X.A.units + 65 < cLine) : OpR X (compareOp .NotIn) (rInDt X.K true) := by
  intro pins s σ H x y v u Q I rx ry h
  obtain ⟨d, ds, hd, he, sd, se, q⟩ := h
  obtain ⟨as, r1⟩ := Dp.reads I d x v hd rx
  obtain ⟨bs, r2⟩ := Dp.reads I (.tuple ds) y u he ry
  exact SeqAt.notIn_tuple_reads r2 r1 (SeqAt.canLay_of_shaped se) (SeqAt.canLay_of_shaped sd) (room_shaped sd hu) ⟨.bl _, H, I, rfl, q⟩
theorem any_eqv {p : PV} (hp : dt 40 p = true) : ∀ {xs : List PV}, dts 39 xs = true → ((toDs xs).any fun z => PyData.eqv z (toD p)) = xs.any fun z => peq z p
  | [], _ => rfl
  | x :: xs, h => by
    have h' : (dt 39 x && dts 39 xs) = true := h
    rw [Bool.and_eq_true] at h'
    show (PyData.eqv (toD x) (toD p) || (toDs xs).any _) = _
    rw [peq_eqv x p 39 40 h'.1 hp, any_eqv hp h'.2]; rfl
theorem o_inB (neg : Bool) {f : Value → Value → Sem Value} (h1 : OpR X f (fun x y H Q => ∃ d ds, Dp X.K H x d ∧ Dp X.K H y (.list ds) ∧ SeqAt.shaped d = true ∧ SeqAt.shaped (.list ds) = true ∧ Q (.bl (if neg then !(ds.any fun z => PyData.eqv z d) else ds.any fun z => PyData.eqv z d)) H))
    (h2 : OpR X f (rInDt X.K neg)) (h3 : OpR X f (fun x y H Q => ∃ a o, y = .ref a ∧ DGet H a x o ∧ Q (.bl (if neg then !o.isSome else o.isSome)) H)) :
    OpR X f (r2 m fun p q => (pInB p q).map fun b => PV.bl (if neg then !b else b)) := OpR.byp fun p q z e => by
  obtain ⟨b, hb, rfl⟩ := Option.map_eq_some_iff.mp e
  unfold pInB at hb
  split at hb
  · obtain ⟨hd, rfl⟩ := ite_some hb
    rw [Bool.and_eq_true] at hd
    have hl : dt 40 (.lst _) = true := hd.2
    exact ⟨_, h1, fun x y H F Q sub hp hq k => ⟨_, _, dp_rdv sub hd.1 hp, dp_rdv sub hl hq, dt_shaped hd.1 (by decide), dt_shaped hl (by decide), by
      rw [any_eqv hd.1 hd.2]; exact k _ H (.inl ⟨rfl, .bl _, fun _ => rfl⟩)⟩⟩
  · obtain ⟨hd, rfl⟩ := ite_some hb
    rw [Bool.and_eq_true] at hd
    have hl : dt 40 (.tup _) = true := hd.2
    exact ⟨_, h2, fun x y H F Q sub hp hq k => ⟨_, _, dp_rdv sub hd.1 hp, dp_rdv sub hl hq, dt_shaped hd.1 (by decide), dt_shaped hl (by decide), by
      rw [any_eqv hd.1 hd.2]; exact k _ H (.inl ⟨rfl, .bl _, fun _ => rfl⟩)⟩⟩
  · rename_i kvs
    obtain ⟨j, h4, h5⟩ := bind_some hb
    cases h5
    refine ⟨_, h3, fun x y H F Q sub hp hq k => ?_⟩
    obtain ⟨a, w, e, g, w1, w2⟩ := dget_rdv (p := .dct kvs) (o := valP kvs j) sub (by unfold pDget; rw [h4]; rfl) hq hp
    refine ⟨a, w, e, g, ?_⟩
    have ew : w.isSome = (valP kvs j).isSome := by
      cases q : valP kvs j with
      | none => rw [w2 q]; rfl
      | some z => obtain ⟨x, ex, _⟩ := w1 z q; rw [ex]; rfl
    rw [ew]
    exact k _ H (.inl ⟨rfl, .bl _, fun _ => rfl⟩)
  · rename_i kvs
    obtain ⟨j, h4, h5⟩ := bind_some hb
    cases h5
    refine ⟨_, h3, fun x y H F Q sub hp hq k => ?_⟩
    obtain ⟨a, w, e, g, w1, w2⟩ := dget_rdv (p := .dtt kvs) (o := valP kvs j) sub (by unfold pDget; rw [h4]; rfl) hq hp
    refine ⟨a, w, e, g, ?_⟩
    have ew : w.isSome = (valP kvs j).isSome := by
      cases q : valP kvs j with
      | none => rw [w2 q]; rfl
      | some z => obtain ⟨x, ex, _⟩ := w1 z q; rw [ex]; rfl
    rw [ew]
    exact k _ H (.inl ⟨rfl, .bl _, fun _ => rfl⟩)
  · cases hb
theorem o_in (hu : X.A.units + 65 < cLine) : OpR X (compareOp .In) (r2 m pIn) := o_inB false (op_inD hu) (op_inDt hu) (isD_in hu)
theorem o_notIn (hu : X.A.units + 65 < cLine) : OpR X (compareOp .NotIn) (r2 m pNotIn) := o_inB true (op_notInD hu) (op_notInDt hu) (isD_notIn hu)

/-! ### subscripts -/
def pItem (p q : PV) : Option PV :=
  match p, q with
  | .lst xs, .int i => atI xs i
  | .tup xs, .int i => atI xs i
  | .str x, .int i => if x.length ≤ LIM then (atI x.cps.toList i).map fun c => PV.str ⟨#[c]⟩ else none
  | .dct kvs, q => (key1 q).bind fun k => valP kvs k
  | .dtt kvs, q => (keyT q).bind fun k => valP kvs k
  | _, _ => none
theorem Reps.atI {F : Hp} {ps : List PV} {vs : List V} {i : Int} {p : PV} (r : Reps F ps vs) (h : atI ps i = some p) : ∃ v, atI vs i = some v ∧ Rep F p v := by
  unfold L2.atI at h ⊢
  obtain ⟨j, hj, h⟩ := bind_some h
  rw [r.length] at hj
  obtain ⟨v, hv, rv⟩ := r.get h
  exact ⟨v, by rw [hj]; exact hv, rv⟩
def seqP : PV → Bool
  | .lst _ => true
  | .tup _ => true
  | .str _ => true
  | _ => false
theorem pe_or2 {e : Expr} {t t' : TE} (h : PE X e t) (h' : PE X e t') : PE X e (fun σ H Q => t σ H Q ∨ t' σ H Q) := ⟨fun pins s σ H Q I q => by
  rcases q with q | q
  · exact h.run pins s σ H Q I q
  · exact h'.run pins s σ H Q I q⟩
theorem ix_pv : IxR X (r2 false fun p q => if seqP p then pItem p q else none) := by
  intro value slice pins s σ H x y v u Q I rx ry ⟨F, p, q, z, sub, e, hp, hq, k⟩ hs
  cases p <;> simp [seqP] at e
  · cases q <;> simp [pItem] at e
    rename_i w i
    obtain ⟨hl, c, hc, rfl⟩ := e
    exact ix_str value slice pins s σ H x y v u Q I rx ry ⟨w, i, c, rdv_str hp, rdv_int hq, lim_ok hl, hc, k _ H (.inl ⟨rfl, .str _, fun _ => rfl⟩)⟩ hs
  · cases q <;> simp [pItem] at e
    obtain ⟨a, vs, rfl, _, ha, ra, la⟩ := rdv_tup sub hp
    obtain ⟨w, hw, rw'⟩ := ra.atI e
    exact ix_tup value slice pins s σ H _ y v u Q I rx ry ⟨a, vs, _, w, rfl, rdv_int hq, .inl (.inl ha), hw, k w H (.inl ⟨rfl, rw', fun z => nomatch z⟩)⟩ hs
  · cases q <;> simp [pItem] at e
    obtain ⟨a, vs, rfl, ha, ra, la⟩ := rdv_lst sub hp
    obtain ⟨w, hw, rw'⟩ := ra.atI e
    exact ix_list value slice pins s σ H _ y v u Q I rx ry ⟨a, vs, _, w, rfl, rdv_int hq, .inl ha, hw, k w H (.inl ⟨rfl, rw', fun z => nomatch z⟩)⟩ hs
variable {O : List Kd} {a b : Expr} {fa fb : EF} {ra rb : Option Nat} {pos : Pos}
theorem re_item (hu : X.A.units + 65 < cLine) (ha : RR X O ra a fa) (hb : RR X (lockO ra O) rb b fb) (hs : PlainIx b := by intro _ _; rfl) : RE X O false (.Subscript a b pos) (e2 pItem fa fb) :=
  pe_imp (pe_or2 (pe_ix ix_pv ha hb hs) (pe_dget (by omega) ha hb hs)) fun σ H Q ⟨F, ρ, p, ρ', st, hf, k⟩ => by
    have hf0 := hf
    obtain ⟨⟨x, ρ1⟩, h1, hf⟩ := bind_some hf
    obtain ⟨⟨y, ρ2⟩, h2, hf⟩ := bind_some hf
    obtain ⟨z, h3, hf⟩ := bind_some hf
    cases hf
    by_cases hx : seqP x = true
    · refine .inl (imp_op2 σ H Q ⟨F, ρ, p, ρ2, st, ?_, k⟩)
      unfold e2
      rw [h1]
      show ((fb ρ1).bind _) = _
      rw [h2]
      show ((if seqP x = true then pItem x y else none).bind _) = _
      rw [if_pos hx, h3]; rfl
    · refine .inr ⟨F, ρ, x, ρ1, st, h1, fun v1 H1 F1 po1 rd1 => ⟨F1, ρ1, y, ρ2, po1.st.lock ra, h2, fun v2 H2 F2 po2 rd2 => ?_⟩⟩
      have po := po1.trans (po2.unlock po1.st)
      have hd : pDget x y = some (some p) := by
        cases x <;> first | exact absurd rfl hx | (simp [pItem] at h3; done) | skip
        · simp only [pItem] at h3
          obtain ⟨j, h4, h5⟩ := bind_some h3
          unfold pDget; rw [h4]; exact congrArg some h5
        · simp only [pItem] at h3
          obtain ⟨j, h4, h5⟩ := bind_some h3
          unfold pDget; rw [h4]; exact congrArg some h5
      obtain ⟨a, w, e, g, w1, w2⟩ := dget_rdv po2.st.sub hd (rd1.stay po2.fr) rd2.val
      obtain ⟨u, rfl, ru⟩ := w1 p rfl
      exact ⟨a, u, e, g, k u H2 F2 po (.inl ⟨ru, fun z => nomatch z⟩)⟩

/-! ### slices -/
def cutP (xs : List PV) (lo hi : Option Int) : List PV := (xs.drop (HT.sIx xs.length 0 lo)).take (HT.sIx xs.length xs.length hi - HT.sIx xs.length 0 lo)
theorem Reps.cut {F : Hp} {ps : List PV} {vs : List V} (r : Reps F ps vs) (lo hi : Option Int) : Reps F (cutP ps lo hi) (cutV vs lo hi) := by
  unfold cutP cutV
  rw [r.length]
  exact (r.drop _).take _
theorem cutP_length (xs : List PV) (lo hi : Option Int) : (cutP xs lo hi).length ≤ xs.length := by
  unfold cutP
  rw [List.length_take, List.length_drop]
  omega
def pCut (p : PV) (lo hi : Option Int) : Option PV :=
  match p with
  | .lst xs => some (.lst (cutP xs lo hi))
  | .tup xs => some (.tup (cutP xs lo hi))
  | .str x => if x.length ≤ LIM then some (.str (cutS x lo hi)) else none
  | _ => none
abbrev OF := Env → Option (Option Int × Env)
def tO (O : List Kd) (f : OF) : TO := fun σ H Q => ∃ F ρ p ρ', StOk O ρ σ H F ∧ f ρ = some (p, ρ') ∧ ∀ H' F', PoE O ρ σ H F ρ' H' F' → Q p H'
abbrev RO (X : Cx) (O : List Kd) (e : Option Expr) (f : OF) : Prop := PO X e (tO O f)
def oN : OF := fun ρ => some (none, ρ)
def oS (a : EF) : OF := fun ρ => (a ρ).bind fun x => match x.1 with | .int i => some (some i, x.2) | _ => none
theorem po_imp {e : Option Expr} {t t' : TO} (h : PO X e t) (i : ∀ σ H Q, t' σ H Q → t σ H Q) : PO X e t' := ⟨fun pins s σ H Q I q => h.run pins s σ H Q I (i σ H Q q)⟩
theorem ro_n : RO X O none oN := po_imp po_none fun σ H Q ⟨F, ρ, p, ρ', st, hf, k⟩ => by
  cases hf
  exact k H F (PoE.refl st)
theorem ro_s {m : Bool} (ha : RE X O m a fa) : RO X O (some a) (oS fa) := po_imp (po_some ha) fun σ H Q ⟨F, ρ, p, ρ', st, hf, k⟩ => by
  obtain ⟨⟨x, ρ1⟩, h1, hf⟩ := bind_some hf
  cases x <;> simp at hf
  obtain ⟨rfl, rfl⟩ := hf
  refine ⟨F, ρ, _, ρ1, st, h1, fun v H' F' po rs => ⟨_, ?_, k H' F' po⟩⟩
  rcases rs with ⟨h, _⟩ | ⟨_, m, _⟩
  · exact rep_int h
  · cases m
def eSl (a : EF) (l h : OF) : EF := fun ρ => (a ρ).bind fun x => (l x.2).bind fun i => (h i.2).bind fun j => (pCut x.1 i.1 j.1).bind fun z => some (z, j.2)
def rSlP (K : PySem.W.Frag) : V → Option Int → Option Int → Hp → VK → Prop := fun x lo hi H Q => ∃ F p z, Sub F H ∧ pCut p lo hi = some z ∧ RdV p x H F ∧ ∀ v H', PRes true z v H F H' → Q v H'
theorem sl_pv : SlR X (rSlP X.K) := by
  intro pins s σ H x v vl vu lo hi sl Q I rx hs pl pu ⟨F, p, z, sub, e, hp, k⟩
  cases p <;> simp [pCut] at e
  · obtain ⟨hl, rfl⟩ := e
    exact sl_str pins s σ H x v vl vu lo hi sl Q I rx hs pl pu ⟨_, rdv_str hp, lim_ok hl, k _ H (.inl ⟨rfl, .str _, fun _ => rfl⟩)⟩
  · subst e
    rename_i xs
    obtain ⟨a, vs, rfl, fa, ha, ra, la⟩ := rdv_tup sub hp
    refine sl_tupA pins s σ H _ v vl vu lo hi sl Q I rx hs pl pu ⟨a, vs, rfl, .inl (.inl ha), fun ⟨h1, h2⟩ => ?_, fun _ p hp => ?_⟩
    · refine k _ H (.inl ⟨rfl, ?_⟩)
      have ec : cutP xs lo hi = xs := by
        unfold cutP
        rw [ra.length, h1, h2, List.drop_zero, Nat.sub_zero, ← ra.length, List.take_length]
      rw [ec]
      exact ⟨.ref fa (.tup ra la), fun _ => rfl⟩
    · exact k _ _ (.inr ⟨p, _, rfl, hp, rfl, .tup (ra.cut lo hi) (Nat.le_trans (cutP_length _ _ _) la)⟩)
  · subst e
    obtain ⟨a, vs, rfl, ha, ra, la⟩ := rdv_lst sub hp
    exact sl_list pins s σ H _ v vl vu lo hi sl Q I rx hs pl pu ⟨a, vs, rfl, .inl ha, fun p hp => k _ _ (.inr ⟨p, _, rfl, hp, rfl, .lst (ra.cut lo hi) (Nat.le_trans (cutP_length _ _ _) la)⟩)⟩
theorem re_slice {lo hi : Option Expr} {fl fh : OF} {p2 : Pos} (ha : RR X O ra a fa) (hl : RO X (lockO ra O) lo fl) (hh : RO X (lockO ra O) hi fh) : RE X O true (.Subscript a (.Slice lo hi none p2) pos) (eSl fa fl fh) :=
  pe_imp (pe_slice sl_pv ha hl hh) fun σ H Q ⟨F, ρ, p, ρ', st, hf, k⟩ => by
    obtain ⟨⟨x, ρ1⟩, h1, hf⟩ := bind_some hf
    obtain ⟨⟨i, ρ2⟩, h2, hf⟩ := bind_some hf
    obtain ⟨⟨j, ρ3⟩, h3, hf⟩ := bind_some hf
    obtain ⟨z, h4, hf⟩ := bind_some hf
    cases hf
    refine ⟨F, ρ, x, ρ1, st, h1, fun v1 H1 F1 po1 rd1 => ⟨F1, ρ1, i, ρ2, po1.st.lock ra, h2, fun H2 F2 po2 => ⟨F2, ρ2, j, ρ3, po2.st, h3, fun H3 F3 po3 => ?_⟩⟩⟩
    have po := po1.trans ((po2.trans po3).unlock po1.st)
    refine ⟨F3, x, p, po3.st.sub, h4, rd1.stay (po2.trans po3).fr, fun v H' pr => ?_⟩
    obtain ⟨F', po4, rs⟩ := pr.fin po.st
    exact k v H' F' (po.trans po4) (rs.trans po)
end
end Pv

/-! Pv4: statements by plain values: assignments, blocks, if, return, loops. -/
noncomputable section
namespace Pv
open PySem PySem.Spec PyProof.Rows L2

inductive Out where
  | nx | bk | ct | rt (p : PV)
abbrev SF := Env → Option (Out × Env)

def Fx (O O' : List Kd) : Prop := ∀ i, (kd O i = .lk ↔ kd O' i = .lk) ∧ (kd O i = .io ↔ kd O' i = .io)
def SK (O : List Kd) (ρ : Env) (σ : L2.St) (ρ' : Env) (σ' : L2.St) : Prop := ∀ i, (kd O i = .lk → ρ'[i]? = ρ[i]? ∧ σ'[i]? = σ[i]?) ∧ (kd O i = .io → σ'[i]? = σ[i]?)
/-- behind a statement -/
structure PoS (O O' : List Kd) (ρ : Env) (σ : L2.St) (H F : Hp) (ρ' : Env) (σ' : L2.St) (H' F' : Hp) : Prop where
  st : StOk O' ρ' σ' H' F'
  fr : Frm (OA O ρ σ) H F H' F' (OA O' ρ' σ')
  fx : Fx O O'
  sk : SK O ρ σ ρ' σ'
theorem Fx.refl (O : List Kd) : Fx O O := fun _ => ⟨Iff.rfl, Iff.rfl⟩
theorem PoS.refl {O : List Kd} {ρ : Env} {σ : L2.St} {H F : Hp} (s : StOk O ρ σ H F) : PoS O O ρ σ H F ρ σ H F := ⟨s, Frm.refl _ _ _, Fx.refl _, fun _ => ⟨fun _ => ⟨rfl, rfl⟩, fun _ => rfl⟩⟩
theorem PoS.trans {O O1 O2 : List Kd} {ρ ρ1 ρ2 : Env} {σ σ1 σ2 : L2.St} {H F H1 F1 H2 F2 : Hp} (x : PoS O O1 ρ σ H F ρ1 σ1 H1 F1) (y : PoS O1 O2 ρ1 σ1 H1 F1 ρ2 σ2 H2 F2) : PoS O O2 ρ σ H F ρ2 σ2 H2 F2 where
  st := y.st
  fr := x.fr.trans y.fr
  fx := fun i => ⟨(x.fx i).1.trans (y.fx i).1, (x.fx i).2.trans (y.fx i).2⟩
  sk := fun i => ⟨fun h => by
      obtain ⟨a, b⟩ := (x.sk i).1 h
      obtain ⟨c, d⟩ := (y.sk i).1 ((x.fx i).1.mp h)
      exact ⟨c.trans a, d.trans b⟩, fun h => ((y.sk i).2 ((x.fx i).2.mp h)).trans ((x.sk i).2 h)⟩
theorem PoE.s {O : List Kd} {ρ ρ' : Env} {σ : L2.St} {H F H' F' : Hp} (x : PoE O ρ σ H F ρ' H' F') : PoS O O ρ σ H F ρ' σ H' F' :=
  ⟨x.st, x.fr, Fx.refl _, fun i => ⟨fun h => ⟨x.ek.2 i (by rw [h]; rfl), rfl⟩, fun _ => rfl⟩⟩

theorem get_set {α : Type} {l : List α} {i j : Nat} {x y : α} (h : (l.set i x)[j]? = some y) : (j = i ∧ i < l.length ∧ y = x) ∨ (j ≠ i ∧ l[j]? = some y) := by
  rw [List.getElem?_set] at h
  by_cases e : i = j
  · subst e
    rw [if_pos rfl] at h
    by_cases l' : i < l.length
    · rw [if_pos l'] at h; cases h; exact .inl ⟨rfl, l', rfl⟩
    · rw [if_neg l'] at h; cases h
  · rw [if_neg e] at h
    exact .inr ⟨fun z => e z.symm, h⟩
theorem set_get {α : Type} {l : List α} {i : Nat} {x : α} (h : i < l.length) : (l.set i x)[i]? = some x := by
  rw [List.getElem?_set, if_pos rfl, if_pos h]
theorem set_get_ne {α : Type} {l : List α} {i j : Nat} {x : α} (h : j ≠ i) : (l.set i x)[j]? = l[j]? := by
  rw [List.getElem?_set, if_neg (Ne.symm h)]

section
variable {O : List Kd} {ρ : Env} {σ : L2.St} {H F : Hp} {i : Nat} {p : PV} {v : V}
theorem SlotOk.at {k : Kd} {a : Addr} (s : Sub F H) (h : SlotOk k p (.ref a) H F) : H a ≠ none := by
  have fr : Rep F p (.ref a) → H a ≠ none := fun r => by
    cases r with
    | ref e _ =>
      rcases s.rd e with r | ⟨_, r⟩ <;> (rw [r]; simp)
  have own : (isM p = false ∧ Rep F p (.ref a)) ∨ (isM p = true ∧ Own H F p (.ref a)) → H a ≠ none := fun h => by
    rcases h with ⟨_, h⟩ | ⟨_, b, o, e, r, _⟩
    · exact fr h
    · cases e; rw [r]; simp
  cases k with
  | fr => exact fr h
  | lk =>
    rcases h with h | ⟨_, b, o, e, r, _⟩
    · exact fr h
    · cases e
      rcases r with r | ⟨_, r⟩ <;> (rw [r]; simp)
  | ow => exact own h
  | io => exact own h
/-- a slot stored, frozen -/
theorem StOk.setF (s : StOk O ρ σ H F) (r : Rep F p v) : StOk (O.set i .fr) (ρ.set i (some p)) (σ.set i (some v)) H F where
  sub := s.sub
  len := by rw [List.length_set, List.length_set]; exact s.len
  slot := fun j q hq => by
    rcases get_set hq with ⟨rfl, hl, e⟩ | ⟨ne, hq⟩
    · cases e
      refine ⟨v, set_get (by rw [← s.len]; exact hl), ?_⟩
      rcases kd_set_or O j .fr j with e | ⟨_, e⟩
      · by_cases hj : j < O.length
        · rw [kd_set_self hj]; exact r
        · have : kd (O.set j .fr) j = .fr := by
            unfold kd; rw [List.getD_eq_getElem?_getD, List.getElem?_eq_none (by rw [List.length_set]; omega)]; rfl
          rw [this]; exact r
      · rw [e]; exact r
    · obtain ⟨u, hu, sl⟩ := s.slot j q hq
      exact ⟨u, by rw [set_get_ne ne]; exact hu, by rw [kd_set_ne ne]; exact sl⟩
  dis := fun a b c q ne ho hk hp hs => by
    have kf : kd (O.set i .fr) i = .fr := by
      by_cases hj : i < O.length
      · exact kd_set_self hj
      · unfold kd; rw [List.getD_eq_getElem?_getD, List.getElem?_eq_none (by rw [List.length_set]; omega)]; rfl
    have na : a ≠ i := by
      rintro rfl
      rw [OwnA, kf] at ho; cases ho.1
    have nb : b ≠ i := by
      rintro rfl
      exact hk kf
    rw [OwnA, kd_set_ne na, set_get_ne na, set_get_ne na] at ho
    rw [kd_set_ne nb] at hk
    rw [set_get_ne nb] at hp hs
    exact s.dis a b c q ne ho hk hp hs
theorem OA.setF {a : Addr} (h : OA (O.set i .fr) (ρ.set i (some p)) (σ.set i (some v)) a) : OA O ρ σ a := by
  obtain ⟨j, h1, ⟨q, h2, m⟩, h3⟩ := h
  have ne : j ≠ i := by
    rintro rfl
    rcases kd_set_or O j .fr j with e | ⟨_, e⟩
    · by_cases hj : j < O.length
      · rw [kd_set_self hj] at h1; cases h1
      · have : kd (O.set j .fr) j = .fr := by
          unfold kd; rw [List.getD_eq_getElem?_getD, List.getElem?_eq_none (by rw [List.length_set]; omega)]; rfl
        rw [this] at h1; cases h1
    · rw [e] at h1; cases h1
  rw [kd_set_ne ne] at h1
  rw [set_get_ne ne] at h2 h3
  exact ⟨j, h1, ⟨q, h2, m⟩, h3⟩
def freeK : Kd → Bool
  | .fr => true
  | .ow => true
  | _ => false
theorem PoS.setF (s : StOk O ρ σ H F) (r : Rep F p v) (hf : freeK (kd O i) = true) : PoS O (O.set i .fr) ρ σ H F (ρ.set i (some p)) (σ.set i (some v)) H F where
  st := s.setF r
  fr := ⟨Ex.refl F, fun _ _ e _ => e, fun b hb => .inl hb.setF, fun _ h => .inl h, fun _ h => h⟩
  fx := fun j => by
    rcases kd_set_or O i .fr j with e | ⟨rfl, e⟩
    · rw [e]; exact ⟨Iff.rfl, Iff.rfl⟩
    · rw [e]; exact ⟨⟨fun z => (by rw [z] at hf; cases hf), fun z => (by cases z)⟩, ⟨fun z => (by rw [z] at hf; cases hf), fun z => (by cases z)⟩⟩
  sk := fun j => by
    by_cases e : j = i
    · subst e
      exact ⟨fun z => (by rw [z] at hf; cases hf), fun z => (by rw [z] at hf; cases hf)⟩
    · exact ⟨fun _ => ⟨set_get_ne e, set_get_ne e⟩, fun _ => set_get_ne e⟩
/-- a slot stored that owns what is new -/
theorem StOk.setM {H0 F0 : Hp} {ρ0 : Env} (s0 : StOk O ρ0 σ H0 F0) (x : PoE O ρ0 σ H0 F0 ρ H F) (r : Res true p v H0 H F (OA O ρ σ)) (hi : i < O.length) (hf : freeK (kd O i) = true) :
    PoS O (O.set i .ow) ρ0 σ H0 F0 (ρ.set i (some p)) (σ.set i (some v)) H F := by
  have s := x.st
  -- nobody else holds a new address
  have fresh : ∀ a, v = .ref a → isM p = true → ∀ j q, j ≠ i → kd O j ≠ .fr → ρ[j]? = some (some q) → σ[j]? = some (some (.ref a)) → False := fun a ev m j q ne hk hq hs => by
    rcases r with ⟨_, z⟩ | ⟨_, _, b, o, e, h, f, c, n0, n⟩
    · rw [z rfl] at m; cases m
    · rw [ev] at e; cases e
      by_cases ho : (kd O j).own = true
      · cases mq : isM q with
        | true => exact n ⟨j, ho, ⟨q, hq, mq⟩, hs⟩
        | false =>
          obtain ⟨u, hu, sl⟩ := s.slot j q hq
          rw [hs] at hu; cases hu
          rcases sl.own ho with ⟨_, z⟩ | ⟨z, _⟩
          · cases z with
            | ref e _ => rw [f] at e; cases e
          · rw [mq] at z; cases z
      · have hq0 : ρ0[j]? = some (some q) := by rw [← x.ek.2 j (by simpa using ho)]; exact hq
        obtain ⟨u, hu, sl⟩ := s0.slot j q hq0
        rw [hs] at hu; cases hu
        exact sl.at s0.sub n0
  have slp : (isM p = false ∧ Rep F p v) ∨ (isM p = true ∧ Own H F p v) := by
    rcases r with ⟨h, z⟩ | ⟨_, m, b, o, e, h, f, c, n0, n⟩
    · exact .inl ⟨z rfl, h⟩
    · exact .inr ⟨m, b, o, e, h, f, c⟩
  have st' : StOk (O.set i .ow) (ρ.set i (some p)) (σ.set i (some v)) H F := by
    refine ⟨s.sub, by rw [List.length_set, List.length_set]; exact s.len, fun j q hq => ?_, fun a b c q ne ho hk hp hs => ?_⟩
    · rcases get_set hq with ⟨rfl, hl, e⟩ | ⟨ne, hq⟩
      · cases e
        exact ⟨v, set_get (by rw [← s.len]; exact hl), by rw [kd_set_self hi]; exact slp⟩
      · obtain ⟨u, hu, sl⟩ := s.slot j q hq
        exact ⟨u, by rw [set_get_ne ne]; exact hu, by rw [kd_set_ne ne]; exact sl⟩
    · obtain ⟨ho1, ⟨u, hu, m⟩, ho3⟩ := ho
      rcases get_set hu with ⟨rfl, hl, e⟩ | ⟨na, hu2⟩
      · cases e
        rcases get_set ho3 with ⟨_, _, e3⟩ | ⟨z, _⟩
        · have nb : b ≠ a := fun z => ne z.symm
          rw [set_get_ne nb] at hp hs
          rw [kd_set_ne nb] at hk
          exact fresh c (Option.some.inj e3).symm m b _ nb hk hp hs
        · exact z rfl
      · rw [set_get_ne na] at ho3
        rw [kd_set_ne na] at ho1
        by_cases nb : b = i
        · subst nb
          rcases get_set hp with ⟨_, _, e⟩ | ⟨z, _⟩
          · cases e
            rcases get_set hs with ⟨_, _, e3⟩ | ⟨z, _⟩
            · have ev : v = .ref c := (Option.some.inj e3).symm
              cases mp : isM p with
              | true => exact fresh c ev mp a u na (fun z => by rw [z] at ho1; cases ho1) hu2 ho3
              | false =>
                rcases slp with ⟨_, z⟩ | ⟨z, _⟩
                · rw [ev] at z
                  cases z with
                  | ref e _ =>
                    obtain ⟨_, _, _, _, _, f, _⟩ := OwnA.at s (⟨ho1, ⟨u, hu2, m⟩, ho3⟩ : OwnA O ρ σ a c)
                    rw [f] at e; cases e
                · rw [mp] at z; cases z
            · exact z rfl
          · exact z rfl
        · rw [kd_set_ne nb] at hk
          rw [set_get_ne nb] at hp hs
          exact s.dis a b c q ne ⟨ho1, ⟨u, hu2, m⟩, ho3⟩ hk hp hs
  refine ⟨st', ⟨x.fr.ex, x.fr.keep, fun b hb => ?_, x.fr.fgr, x.fr.nv⟩, fun j => ?_, fun j => ?_⟩
  · obtain ⟨j, h1, ⟨q, h2, m⟩, h3⟩ := hb
    by_cases ne : j = i
    · subst ne
      rcases get_set h2 with ⟨_, _, e⟩ | ⟨z, _⟩
      · cases e
        rcases get_set h3 with ⟨_, _, e3⟩ | ⟨z, _⟩
        · rcases r with ⟨_, z⟩ | ⟨_, _, a, o, e, h, f, c, n0, n⟩
          · rw [z rfl] at m; cases m
          · rw [e] at e3
            cases e3
            exact .inr n0
        · exact absurd rfl z
      · exact absurd rfl z
    · rw [kd_set_ne ne] at h1
      rw [set_get_ne ne] at h2 h3
      exact x.fr.asub b ⟨j, h1, ⟨q, h2, m⟩, h3⟩
  · rcases kd_set_or O i .ow j with e | ⟨rfl, e⟩
    · rw [e]; exact ⟨Iff.rfl, Iff.rfl⟩
    · rw [e]; exact ⟨⟨fun z => (by rw [z] at hf; cases hf), fun z => (by cases z)⟩, ⟨fun z => (by rw [z] at hf; cases hf), fun z => (by cases z)⟩⟩
  · by_cases e : j = i
    · subst e
      exact ⟨fun z => (by rw [z] at hf; cases hf), fun z => (by rw [z] at hf; cases hf)⟩
    · exact ⟨fun z => ⟨by rw [set_get_ne e]; exact x.ek.2 j (by rw [z]; rfl), set_get_ne e⟩, fun _ => set_get_ne e⟩
/-- an owned slot is frozen -/
theorem StOk.freeze (s : StOk O ρ σ H F) (hk : kd O i = .ow) : ∃ F', PoS O (O.set i .fr) ρ σ H F ρ σ H F' := by
  have hi : i < O.length := kd_lt (by rw [hk]; intro z; cases z)
  have fx : Fx O (O.set i .fr) := fun j => by
    rcases kd_set_or O i .fr j with e | ⟨rfl, e⟩
    · rw [e]; exact ⟨Iff.rfl, Iff.rfl⟩
    · rw [e, hk]; exact ⟨⟨fun z => (by cases z), fun z => (by cases z)⟩, ⟨fun z => (by cases z), fun z => (by cases z)⟩⟩
  have sk : SK O ρ σ ρ σ := fun _ => ⟨fun _ => ⟨rfl, rfl⟩, fun _ => rfl⟩
  have oa : ∀ b, OA (O.set i .fr) ρ σ b → OA O ρ σ b := fun b ⟨j, h1, h2⟩ => by
    rcases kd_set_or O i .fr j with e | ⟨_, e⟩
    · rw [e] at h1; exact ⟨j, h1, h2⟩
    · rw [e] at h1; cases h1
  have dis : ∀ a b c q, a ≠ b → OwnA (O.set i .fr) ρ σ a c → kd (O.set i .fr) b ≠ .fr → ρ[b]? = some (some q) → σ[b]? = some (some (.ref c)) → False := fun a b c q ne ho hk' hp hs => by
    have ha : OwnA O ρ σ a c := by
      rcases kd_set_or O i .fr a with e | ⟨_, e⟩
      · rw [OwnA, e] at ho; exact ho
      · rw [OwnA, e] at ho; cases ho.1
    refine s.dis a b c q ne ha (fun z => ?_) hp hs
    rcases kd_set_or O i .fr b with e | ⟨_, e⟩
    · rw [e] at hk'; exact hk' z
    · exact hk' e
  -- is there an own thing?
  by_cases hc : ∃ a, OwnA O ρ σ i a
  · obtain ⟨a, ho⟩ := hc
    obtain ⟨p, o, hp, m, h, f, c⟩ := ho.at s
    have ex : Ex F (upd F a o) := Ex.new f
    refine ⟨upd F a o, ⟨s.sub.addF h, s.len, fun j q hq => ?_, dis⟩, ⟨ex, fun _ _ e _ => e, fun b hb => .inl (oa b hb), fun b hb => ?_, fun _ z => z⟩, fx, sk⟩
    · obtain ⟨u, hu, sl⟩ := s.slot j q hq
      refine ⟨u, hu, ?_⟩
      by_cases e : j = i
      · subst e
        rw [kd_set_self hi]
        rw [hp] at hq; cases hq
        have hs := ho.2.2
        rw [hu] at hs; cases hs
        exact .ref upd_same (c.mono ex)
      · rw [kd_set_ne e]
        have keep : ∀ b, u = .ref b → isM q = true → kd O j ≠ .fr → b ≠ a := fun b e1 m1 k1 z => by
          subst z
          exact s.dis i j b q (fun z => e z.symm) ho k1 hq (by rw [hu, e1])
        generalize hkk : kd O j = k at sl keep
        have own : (isM q = false ∧ Rep F q u) ∨ (isM q = true ∧ Own H F q u) → k ≠ .fr → (isM q = false ∧ Rep (upd F a o) q u) ∨ (isM q = true ∧ Own H (upd F a o) q u) := fun h kn => by
          rcases h with ⟨m1, h⟩ | ⟨m1, b, w, e1, r, f1, c1⟩
          · exact .inl ⟨m1, h.mono ex⟩
          · exact .inr ⟨m1, b, w, e1, r, by rw [upd_ne (keep b e1 m1 kn)]; exact f1, c1.mono ex⟩
        cases k with
        | fr => exact Rep.mono ex sl
        | lk =>
          rcases sl with z | ⟨m1, b, w, e1, r, c1⟩
          · exact .inl (z.mono ex)
          · exact .inr ⟨m1, b, w, e1, r, c1.mono ex⟩
        | ow => exact own sl (fun z => by cases z)
        | io => exact own sl (fun z => by cases z)
    · by_cases e : b = a
      · subst e; exact .inr (.inl ⟨i, ho⟩)
      · rw [upd_ne e] at hb; exact .inl hb
  · refine ⟨F, ⟨s.sub, s.len, fun j q hq => ?_, dis⟩, ⟨Ex.refl F, fun _ _ e _ => e, fun b hb => .inl (oa b hb), fun b hb => .inl hb, fun _ z => z⟩, fx, sk⟩
    obtain ⟨u, hu, sl⟩ := s.slot j q hq
    refine ⟨u, hu, ?_⟩
    by_cases e : j = i
    · subst e
      rw [kd_set_self hi]
      rcases sl.own (by rw [hk]; rfl) with ⟨_, z⟩ | ⟨m, b, w, e1, _⟩
      · exact z
      · subst e1
        exact absurd ⟨b, by rw [hk]; rfl, ⟨q, hq, m⟩, hu⟩ hc
    · rw [kd_set_ne e]; exact sl
/-- what slot i owns is changed -/
theorem StOk.write {a : Addr} {p' : PV} {o' : HO} (s : StOk O ρ σ H F) (h : OwnA O ρ σ i a) (c : Cnt F p' o') (m : isM p' = true) : PoE O ρ σ H F (ρ.set i (some p')) (upd H a o') F := by
  obtain ⟨p0, o0, hp0, m0, h0, f0, c0⟩ := h.at s
  have hi : i < ρ.length := (List.getElem?_eq_some_iff.mp hp0).1
  have oa : ∀ j b, OwnA O (ρ.set i (some p')) σ j b → OwnA O ρ σ j b := fun j b ⟨h1, ⟨q, h2, m2⟩, h3⟩ => by
    rcases get_set h2 with ⟨rfl, _, _⟩ | ⟨ne, h2⟩
    · exact ⟨h1, ⟨p0, hp0, m0⟩, h3⟩
    · exact ⟨h1, ⟨q, h2, m2⟩, h3⟩
  have keep : ∀ b u, H b = some u → b ≠ a → upd H a o' b = some u := fun b u e ne => by rw [upd_ne ne]; exact e
  refine ⟨⟨fun b u e => ?_, by rw [List.length_set]; exact s.len, fun j q hq => ?_, fun x y b q ne ho hk hp hs => ?_⟩, ⟨Ex.refl F, fun b u e n => ?_, fun b ⟨j, hj⟩ => .inl ⟨j, oa j b hj⟩, fun _ z => .inl z, fun b z => ?_⟩, by rw [List.length_set], fun j hj => ?_⟩
  · have ne : b ≠ a := by
      rintro rfl
      rw [f0] at e; cases e
    rw [upd_ne ne]; exact s.sub b u e
  · rcases get_set hq with ⟨rfl, _, e⟩ | ⟨ne, hq⟩
    · cases e
      exact ⟨_, h.2.2, .of_own h.1 (.inr ⟨m, a, o', rfl, upd_same, f0, c⟩)⟩
    · obtain ⟨u, hu, sl⟩ := s.slot j q hq
      refine ⟨u, hu, ?_⟩
      have nb : ∀ b, u = .ref b → isM q = true → kd O j ≠ .fr → b ≠ a := fun b e1 m1 k1 z => by
        subst z
        exact s.dis i j b q (fun z => ne z.symm) h k1 hq (by rw [hu, e1])
      have rd : ∀ {b w}, Rd H b w → b ≠ a → Rd (upd H a o') b w := fun {b w} r n => by
        rcases r with r | ⟨t, r⟩
        · exact .inl (keep _ _ r n)
        · exact .inr ⟨t, keep _ _ r n⟩
      generalize hkk : kd O j = k at sl nb
      have own : (isM q = false ∧ Rep F q u) ∨ (isM q = true ∧ Own H F q u) → k ≠ .fr → (isM q = false ∧ Rep F q u) ∨ (isM q = true ∧ Own (upd H a o') F q u) := fun h kn => by
        rcases h with h | ⟨m1, b, w, e1, r, f1, c1⟩
        · exact .inl h
        · exact .inr ⟨m1, b, w, e1, keep _ _ r (nb b e1 m1 kn), f1, c1⟩
      cases k with
      | fr => exact sl
      | lk =>
        rcases sl with z | ⟨m1, b, w, e1, r, c1⟩
        · exact .inl z
        · exact .inr ⟨m1, b, w, e1, rd r (nb b e1 m1 (fun z => by cases z)), c1⟩
      | ow => exact own sl (fun z => by cases z)
      | io => exact own sl (fun z => by cases z)
  · rcases get_set hp with ⟨rfl, _, _⟩ | ⟨_, hp⟩
    · exact s.dis x y b p0 ne (oa x b ho) hk hp0 hs
    · exact s.dis x y b q ne (oa x b ho) hk hp hs
  · refine keep b u e fun z => ?_
    subst z
    exact n ⟨i, h⟩
  · by_cases e : b = a
    · subst e; rw [upd_same]; simp
    · rw [upd_ne e]; exact z
  · have ne : j ≠ i := by
      rintro rfl
      rw [h.1] at hj; cases hj
    exact set_get_ne ne
end
end Pv

/-! Pv5: the statements' readings: blocks, if, return, assignments, for, while, comprehensions. -/
noncomputable section
namespace Pv
open PySem PySem.Spec PyProof.Rows L2

/-! ### behind a lock -/
/-- the kinds of the locked, as they were -/
def restO (r : Option Nat) (O O2 : List Kd) : List Kd :=
  match r with
  | none => O2
  | some j => if (kd O j).own then O2.set j (kd O j) else O2
theorem restO_kd {r : Option Nat} {O O2 : List Kd} (fx : Fx (lockO r O) O2) (i : Nat) : ((kd O i).own = true ∧ (kd (lockO r O) i).own = false ∧ kd (restO r O O2) i = kd O i ∧ kd O2 i = .lk) ∨ (¬ ((kd O i).own = true ∧ (kd (lockO r O) i).own = false) ∧ kd (restO r O O2) i = kd O2 i) := by
  rcases lockO_kd r O i with e | ⟨rfl, e, ho⟩
  · refine .inr ⟨fun ⟨h1, h2⟩ => (by rw [e, h1] at h2; cases h2), ?_⟩
    cases r with
    | none => rfl
    | some j =>
      unfold restO
      by_cases h : (kd O j).own = true
      · simp only [h, if_true]
        by_cases ij : i = j
        · subst ij
          have e2 : (kd (lockO (some i) O) i).own = false := lockO_self
          rw [e, h] at e2; cases e2
        · exact kd_set_ne ij
      · simp only [h]; rfl
  · have k2 : kd O2 i = .lk := (fx i).1.mp e
    refine .inl ⟨ho, by rw [e]; rfl, ?_, k2⟩
    unfold restO
    simp only [ho, if_true]
    exact kd_set_self (kd_lt (by rw [k2]; intro z; cases z))
theorem locked_at {r : Option Nat} {O O2 : List Kd} {ρ ρ' : Env} {σ σ' : L2.St} {H F H' F' : Hp} (s : StOk O ρ σ H F) (x : PoS (lockO r O) O2 ρ σ H F ρ' σ' H' F') {j : Nat} {b : Addr} {p : PV} (ko : (kd O j).own = true) (kl : (kd (lockO r O) j).own = false) (hp : ρ[j]? = some (some p)) (m : isM p = true) (hs : σ[j]? = some (some (.ref b))) :
    ¬ OA (lockO r O) ρ σ b ∧ ¬ OA O2 ρ' σ' b ∧ F' b = none ∧ H b ≠ none := by
  have nA : ¬ OA (lockO r O) ρ σ b := fun ⟨i, h⟩ => by
    have ne : i ≠ j := by
      rintro rfl
      rw [h.1] at kl; cases kl
    have ho' : OwnA O ρ σ i b := ⟨by rw [← lockO_own h.1]; exact h.1, h.2⟩
    exact s.dis i j b p ne ho' (fun z => by rw [z] at ko; cases ko) hp hs
  obtain ⟨p0, o0, _, _, e0, f0, _⟩ := OwnA.at s (⟨ko, ⟨p, hp, m⟩, hs⟩ : OwnA O ρ σ j b)
  refine ⟨nA, fun z => ?_, ?_, by rw [e0]; simp⟩
  · rcases x.fr.asub b z with z | z
    · exact nA z
    · rw [e0] at z; cases z
  · cases q : F' b with
    | none => rfl
    | some u =>
      rcases x.fr.fgr b (by rw [q]; simp) with z | z | z
      · exact absurd f0 z
      · exact absurd z nA
      · rw [e0] at z; cases z
theorem PoS.unlockG {r : Option Nat} {O O2 : List Kd} {ρ ρ' : Env} {σ σ' : L2.St} {H F H' F' : Hp} (s : StOk O ρ σ H F) (x : PoS (lockO r O) O2 ρ σ H F ρ' σ' H' F') : PoS O (restO r O O2) ρ σ H F ρ' σ' H' F' := by
  have lk : ∀ j, (kd O j).own = true → (kd (lockO r O) j).own = false → kd (lockO r O) j = .lk := fun j ko kl => by
    rcases lockO_kd r O j with e | ⟨_, e, _⟩
    · rw [e] at kl; rw [kl] at ko; cases ko
    · exact e
  have back : ∀ j, (kd O j).own = true → (kd (lockO r O) j).own = false → ρ'[j]? = ρ[j]? ∧ σ'[j]? = σ[j]? := fun j ko kl => (x.sk j).1 (lk j ko kl)
  -- what is owned behind it: what was locked, or what is owned there
  have oa : ∀ i a, OwnA (restO r O O2) ρ' σ' i a → (OwnA O ρ σ i a ∧ (kd (lockO r O) i).own = false) ∨ OwnA O2 ρ' σ' i a := fun i a h => by
    rcases restO_kd x.fx i with ⟨ko, kl, e, _⟩ | ⟨_, e⟩
    · obtain ⟨b1, b2⟩ := back i ko kl
      obtain ⟨_, ⟨q, hq, m⟩, hs⟩ := h
      rw [b1] at hq
      rw [b2] at hs
      exact .inl ⟨⟨ko, ⟨q, hq, m⟩, hs⟩, kl⟩
    · refine .inr ⟨?_, h.2⟩
      have := h.1
      rw [e] at this
      exact this
  refine ⟨⟨x.st.sub, x.st.len, fun i p hp => ?_, fun i j a p ne ho hk hp hs => ?_⟩, ⟨x.fr.ex, fun b o e n => x.fr.keep b o e fun z => n z.unlock, fun b hb => ?_, fun b h => ?_, x.fr.nv⟩, fun i => ?_, fun i => ⟨fun hi => ?_, fun hi => ?_⟩⟩
  · obtain ⟨v, hv, sl⟩ := x.st.slot i p hp
    refine ⟨v, hv, ?_⟩
    rcases restO_kd x.fx i with ⟨ko, kl, e, _⟩ | ⟨_, e⟩
    · rw [e]
      obtain ⟨b1, b2⟩ := back i ko kl
      rw [b1] at hp
      obtain ⟨v0, hv0, sl0⟩ := s.slot i p hp
      rw [b2, hv0] at hv
      cases hv
      refine .of_own ko ?_
      rcases sl0.own ko with ⟨m, z⟩ | ⟨m, a, o, e, h, f, c⟩
      · exact .inl ⟨m, z.mono x.fr.ex⟩
      · subst e
        obtain ⟨l1, _, l3, _⟩ := locked_at s x ko kl hp m hv0
        exact .inr ⟨m, a, o, rfl, x.fr.keep _ _ h l1, l3, c.mono x.fr.ex⟩
    · rw [e]; exact sl
  · have hk2 : kd O2 j ≠ .fr := by
      rcases restO_kd x.fx j with ⟨_, _, _, e⟩ | ⟨_, e⟩
      · rw [e]; intro z; cases z
      · rw [← e]; exact hk
    rcases oa i a ho with ⟨⟨ko, ⟨q, hq, m⟩, hsi⟩, kl⟩ | ho2
    · obtain ⟨l1, l2, l3, l4⟩ := locked_at s x ko kl hq m hsi
      by_cases hj : (kd O2 j).own = true
      · cases mp : isM p with
        | true => exact l2 ⟨j, hj, ⟨p, hp, mp⟩, hs⟩
        | false =>
          obtain ⟨v, hv, sl⟩ := x.st.slot j p hp
          rw [hs] at hv; cases hv
          rcases sl.own hj with ⟨_, z⟩ | ⟨m', _⟩
          · cases z with
            | ref hF _ => rw [l3] at hF; cases hF
          · rw [mp] at m'; cases m'
      · have hj2 : kd O2 j = .lk := by
          generalize kd O2 j = k at hk2 hj
          cases k with
          | fr => exact absurd rfl hk2
          | lk => rfl
          | ow => exact absurd rfl hj
          | io => exact absurd rfl hj
        obtain ⟨c1, c2⟩ := (x.sk j).1 ((x.fx j).1.mpr hj2)
        rw [c1] at hp
        rw [c2] at hs
        refine s.dis i j a p ne ⟨ko, ⟨q, hq, m⟩, hsi⟩ (fun z => ?_) hp hs
        have : kd (lockO r O) j = .lk := (x.fx j).1.mpr hj2
        rcases lockO_kd r O j with e | ⟨_, _, e⟩
        · rw [e, z] at this; cases this
        · rw [z] at e; cases e
    · exact x.st.dis i j a p ne ho2 hk2 hp hs
  · obtain ⟨i, hi⟩ := hb
    rcases oa i b hi with ⟨h, _⟩ | h
    · exact .inl ⟨i, h⟩
    · rcases x.fr.asub b ⟨i, h⟩ with z | z
      · exact .inl z.unlock
      · exact .inr z
  · rcases x.fr.fgr b h with z | z | z
    · exact .inl z
    · exact .inr (.inl z.unlock)
    · exact .inr (.inr z)
  · rcases restO_kd x.fx i with ⟨ko, kl, e, _⟩ | ⟨nb, e⟩
    · rw [e]; exact ⟨Iff.rfl, Iff.rfl⟩
    · rw [e]
      have el : kd (lockO r O) i = kd O i := by
        rcases lockO_kd r O i with e | ⟨_, e, ho⟩
        · exact e
        · exact absurd ⟨ho, by rw [e]; rfl⟩ nb
      rw [← el]
      exact x.fx i
  · rcases lockO_kd r O i with e | ⟨_, e, z⟩
    · exact (x.sk i).1 (by rw [e]; exact hi)
    · rw [hi] at z; cases z
  · rcases lockO_kd r O i with e | ⟨_, e, _⟩
    · exact (x.sk i).2 (by rw [e]; exact hi)
    · exact ((x.sk i).1 e).2
theorem PoS.same {O O1 O2 : List Kd} {ρ ρ' : Env} {σ σ' : L2.St} {H F H' F' : Hp} (e : ∀ j, kd O1 j = kd O2 j) (x : PoS O O1 ρ σ H F ρ' σ' H' F') : PoS O O2 ρ σ H F ρ' σ' H' F' := by
  have oa : ∀ i a, OwnA O2 ρ' σ' i a → OwnA O1 ρ' σ' i a := fun i a h => ⟨by rw [e]; exact h.1, h.2⟩
  refine ⟨⟨x.st.sub, x.st.len, fun i p hp => ?_, fun i j a p ne ho hk hp hs => x.st.dis i j a p ne (oa i a ho) (by rw [e]; exact hk) hp hs⟩, ⟨x.fr.ex, x.fr.keep, fun b ⟨i, h⟩ => x.fr.asub b ⟨i, oa i b h⟩, x.fr.fgr, x.fr.nv⟩, fun i => by rw [← e]; exact x.fx i, x.sk⟩
  obtain ⟨v, hv, sl⟩ := x.st.slot i p hp
  exact ⟨v, hv, by rw [← e]; exact sl⟩
theorem PoS.unlock {r : Option Nat} {O : List Kd} {ρ ρ' : Env} {σ σ' : L2.St} {H F H' F' : Hp} (s : StOk O ρ σ H F) (x : PoS (lockO r O) (lockO r O) ρ σ H F ρ' σ' H' F') : PoS O O ρ σ H F ρ' σ' H' F' := by
  refine (PoS.unlockG s x).same fun j => ?_
  rcases restO_kd x.fx j with ⟨_, _, e, _⟩ | ⟨nb, e⟩
  · exact e
  · rw [e]
    rcases lockO_kd r O j with e | ⟨_, e, ho⟩
    · exact e
    · exact absurd ⟨ho, by rw [e]; rfl⟩ nb
/-- what is new behind it is nobody's behind the lock -/
theorem Res.unlockG {r : Option Nat} {O O2 : List Kd} {ρ ρ' : Env} {σ σ' : L2.St} {H F H' F' : Hp} {m : Bool} {p : PV} {v : V} (s : StOk O ρ σ H F) (x : PoS (lockO r O) O2 ρ σ H F ρ' σ' H' F') (h : Res m p v H H' F' (OA O2 ρ' σ')) : Res m p v H H' F' (OA (restO r O O2) ρ' σ') := by
  rcases h with h | ⟨e, m, a, o, e1, r', f0, c, n0, n⟩
  · exact .inl h
  · refine .inr ⟨e, m, a, o, e1, r', f0, c, n0, fun ⟨i, ho⟩ => ?_⟩
    rcases restO_kd x.fx i with ⟨ko, kl, e, k2⟩ | ⟨_, e⟩
    · obtain ⟨_, ⟨q, hq, mq⟩, hs⟩ := ho
      have kl' : kd (lockO r O) i = .lk := (x.fx i).1.mpr k2
      obtain ⟨b1, b2⟩ := (x.sk i).1 kl'
      rw [b1] at hq
      rw [b2] at hs
      exact (locked_at s x ko kl hq mq hs).2.2.2 n0
    · exact n ⟨i, by have := ho.1; rw [e] at this; exact this, ho.2⟩

/-! ### the reading of statements -/
/-- what is given back: a result, or what a name owns -/
def ResR (m : Bool) (p : PV) (v : V) (H H' F' : Hp) (O2 : List Kd) (ρ' : Env) (σ' : L2.St) : Prop :=
  Res m p v H H' F' (OA O2 ρ' σ') ∨ (m = true ∧ isM p = true ∧ ∃ i a, v = .ref a ∧ OwnA O2 ρ' σ' i a ∧ kd O2 i = .ow ∧ ρ'[i]? = some (some p))
def Con (O O' Ob : List Kd) (m : Bool) (ρ : Env) (σ : L2.St) (H F : Hp) (D : Ends) (o : Out) (ρ' : Env) : Prop :=
  match o with
  | .nx => ∀ σ' H' F', PoS O O' ρ σ H F ρ' σ' H' F' → D.nx σ' H'
  | .bk => ∀ σ' H' F', PoS O Ob ρ σ H F ρ' σ' H' F' → D.bk σ' H'
  | .ct => ∀ σ' H' F', PoS O Ob ρ σ H F ρ' σ' H' F' → D.ct σ' H'
  | .rt p => ∀ v σ' H' F' O2, PoS O O2 ρ σ H F ρ' σ' H' F' → ResR m p v H H' F' O2 ρ' σ' → D.rt v H'
def tS (O O' Ob : List Kd) (m : Bool) (f : SF) : TS := fun D σ H => ∃ F ρ o ρ', StOk O ρ σ H F ∧ f ρ = some (o, ρ') ∧ Con O O' Ob m ρ σ H F D o ρ'
abbrev RS (X : Cx) (O O' Ob : List Kd) (m : Bool) (st : Stmt) (f : SF) : Prop := PS X st (tS O O' Ob m f)
abbrev RSs (X : Cx) (O O' Ob : List Kd) (m : Bool) (st : List Stmt) (f : SF) : Prop := PSs X st (tS O O' Ob m f)
theorem ps_imp {X : Cx} {e : Stmt} {t t' : TS} (h : PS X e t) (i : ∀ D σ H, t' D σ H → t D σ H) : PS X e t' := ⟨fun pins s σ H D I q => h.run pins s σ H D I (i D σ H q)⟩
theorem pss_imp {X : Cx} {e : List Stmt} {t t' : TS} (h : PSs X e t) (i : ∀ D σ H, t' D σ H → t D σ H) : PSs X e t' := ⟨fun pins s σ H D I q => h.run pins s σ H D I (i D σ H q)⟩
theorem Res.transS {O O1 : List Kd} {ρ ρ1 : Env} {σ σ1 : L2.St} {m : Bool} {p : PV} {v : V} {H F H1 F1 H2 F2 : Hp} {A : Addr → Prop} (po : PoS O O1 ρ σ H F ρ1 σ1 H1 F1) (h : Res m p v H1 H2 F2 A) : Res m p v H H2 F2 A := by
  rcases h with h | ⟨e, m, a, o, e1, r, f0, c, n0, n⟩
  · exact .inl h
  · exact .inr ⟨e, m, a, o, e1, r, f0, c, po.fr.back n0, n⟩
theorem ResR.transS {O O1 O2 : List Kd} {ρ ρ1 ρ2 : Env} {σ σ1 σ2 : L2.St} {m : Bool} {p : PV} {v : V} {H F H1 F1 H2 F2 : Hp} (po : PoS O O1 ρ σ H F ρ1 σ1 H1 F1) (h : ResR m p v H1 H2 F2 O2 ρ2 σ2) : ResR m p v H H2 F2 O2 ρ2 σ2 :=
  h.imp (fun z => z.transS po) id
theorem ResR.unlockG {r : Option Nat} {O O2 : List Kd} {ρ ρ' : Env} {σ σ' : L2.St} {H F H' F' : Hp} {m : Bool} {p : PV} {v : V} (s : StOk O ρ σ H F) (x : PoS (lockO r O) O2 ρ σ H F ρ' σ' H' F') (h : ResR m p v H H' F' O2 ρ' σ') : ResR m p v H H' F' (restO r O O2) ρ' σ' := by
  rcases h with h | ⟨e, mm, i, a, ev, ho, hk, hp⟩
  · exact .inl (h.unlockG s x)
  · refine .inr ⟨e, mm, i, a, ev, ?_, ?_, hp⟩
    · rcases restO_kd x.fx i with ⟨_, _, _, k2⟩ | ⟨_, e2⟩
      · rw [hk] at k2; cases k2
      · exact ⟨by rw [e2, hk]; rfl, ho.2⟩
    · rcases restO_kd x.fx i with ⟨_, _, _, k2⟩ | ⟨_, e2⟩
      · rw [hk] at k2; cases k2
      · rw [e2]; exact hk
/-- what comes behind, seen from further ahead -/
theorem Con.ahead {O O1 O' Ob : List Kd} {m : Bool} {ρ ρ1 : Env} {σ σ1 : L2.St} {H F H1 F1 : Hp} {D : Ends} {o : Out} {ρ' : Env} (c : Con O O' Ob m ρ σ H F D o ρ') (x : PoS O O1 ρ σ H F ρ1 σ1 H1 F1) : Con O1 O' Ob m ρ1 σ1 H1 F1 D o ρ' := by
  cases o with
  | nx => exact fun σ' H' F' y => c σ' H' F' (x.trans y)
  | bk => exact fun σ' H' F' y => c σ' H' F' (x.trans y)
  | ct => exact fun σ' H' F' y => c σ' H' F' (x.trans y)
  | rt p => exact fun v σ' H' F' O2 y r => c v σ' H' F' O2 (x.trans y) (r.transS x)

def sSeq (f g : SF) : SF := fun ρ => (f ρ).bind fun x => match x.1 with | .nx => g x.2 | o => some (o, x.2)
def sNx : SF := fun ρ => some (.nx, ρ)
def sBk : SF := fun ρ => some (.bk, ρ)
def sCt : SF := fun ρ => some (.ct, ρ)
def sNo : SF := fun _ => none
def sRet (a : EF) : SF := fun ρ => (a ρ).bind fun x => some (.rt x.1, x.2)
def sRetN : SF := fun ρ => some (.rt .non, ρ)
def sIf (c : TF) (f g : SF) : SF := fun ρ => (c ρ).bind fun x => if x.1 then f x.2 else g x.2
def sDrop (a : EF) : SF := fun ρ => (a ρ).bind fun x => some (.nx, x.2)
section
variable {X : Cx} {O O1 O' Ob : List Kd} {m : Bool} {st : Stmt} {rest : List Stmt} {f g : SF} {a c : Expr} {fa : EF} {fc : TF} {pos : Pos}
theorem rs_seq (h1 : RS X O O1 Ob m st f) (h2 : RSs X O1 O' Ob m rest g) : RSs X O O' Ob m (st :: rest) (sSeq f g) :=
  pss_imp (pss_cons h1 h2) fun D σ H ⟨F, ρ, o, ρ', s, hf, k⟩ => by
    obtain ⟨⟨o1, ρ1⟩, e1, hf⟩ := bind_some hf
    cases o1 with
    | nx => exact ⟨F, ρ, .nx, ρ1, s, e1, fun σ1 H1 F1 x => ⟨F1, ρ1, o, ρ', x.st, hf, k.ahead x⟩⟩
    | bk => cases hf; exact ⟨F, ρ, .bk, _, s, e1, k⟩
    | ct => cases hf; exact ⟨F, ρ, .ct, _, s, e1, k⟩
    | rt p => cases hf; exact ⟨F, ρ, .rt p, _, s, e1, k⟩
theorem rs_one (h : RS X O O' Ob m st f) : RSs X O O' Ob m [st] f := pss_one h
theorem rs_nil : RSs X O O Ob m [] sNx := pss_imp pss_nil fun D σ H ⟨F, ρ, o, ρ', s, hf, k⟩ => by
  cases hf
  exact k σ H F (PoS.refl s)
theorem rs_pass : RS X O O Ob m (.Pass pos) sNx := ps_imp ps_pass fun D σ H ⟨F, ρ, o, ρ', s, hf, k⟩ => by
  cases hf
  exact k σ H F (PoS.refl s)
theorem rs_break : RS X Ob O' Ob m (.Break pos) sBk := ps_imp ps_break fun D σ H ⟨F, ρ, o, ρ', s, hf, k⟩ => by
  cases hf
  exact k σ H F (PoS.refl s)
theorem rs_continue : RS X Ob O' Ob m (.Continue pos) sCt := ps_imp ps_continue fun D σ H ⟨F, ρ, o, ρ', s, hf, k⟩ => by
  cases hf
  exact k σ H F (PoS.refl s)
/-- a statement that is not come to -/
theorem rs_no : RS X O O' Ob m st sNo := ps_imp ps_never fun D σ H ⟨F, ρ, o, ρ', s, hf, k⟩ => by cases hf
theorem rs_nos : RSs X O O' Ob m rest sNo := pss_imp pss_never fun D σ H ⟨F, ρ, o, ρ', s, hf, k⟩ => by cases hf
theorem rs_ret (h : RE X O m a fa) : RS X O O' Ob m (.Return (some a) pos) (sRet fa) := ps_imp (ps_ret h) fun D σ H ⟨F, ρ, o, ρ', s, hf, k⟩ => by
  obtain ⟨⟨p, ρ1⟩, e1, hf⟩ := bind_some hf
  cases hf
  exact ⟨F, ρ, p, _, s, e1, fun v H' F' po rs => k v σ H' F' O po.s (.inl rs)⟩
/-- return x, x a name that owns its thing -/
theorem rs_retM (i : Nat) {x : Str} {p : Pos} (hk : kd O i = .ow := by rfl) (hN : X.N[i]? = some x := by rfl) (hv : Vis X.env.scope x := by first | exact Or.inl rfl | exact Or.inr (Or.inl rfl) | exact Or.inr (Or.inr rfl)) (hd : (x == ("__debug__" : Str)) = false := by decide)
    (hcd : (x == ("__classdict__" : Str)) = false := by decide) : RS X O O' Ob true (.Return (some (.Name x p)) pos) (sRet (eV i)) := ps_imp (ps_ret (pe_var hN hv hd hcd)) fun D σ H ⟨F, ρ, o, ρ', s, hf, k⟩ => by
  obtain ⟨⟨p, ρ1⟩, e1, hf⟩ := bind_some hf
  cases hf
  obtain ⟨hp, e⟩ := eV_some e1
  subst e
  obtain ⟨v, hv, sl⟩ := s.slot i p hp
  refine ⟨v, hv, k v σ H F O (PoS.refl s) ?_⟩
  rcases sl.own (by rw [hk]; rfl) with ⟨m, r⟩ | ⟨m, a, o, e, h, f, c⟩
  · exact .inl (.inl ⟨r, fun _ => m⟩)
  · subst e
    exact .inr ⟨rfl, m, i, a, rfl, ⟨by rw [hk]; rfl, ⟨p, hp, m⟩, hv⟩, hk, hp⟩
theorem rs_retN : RS X O O' Ob m (.Return none pos) sRetN := ps_imp ps_retN fun D σ H ⟨F, ρ, o, ρ', s, hf, k⟩ => by
  cases hf
  exact k .non σ H F O (PoS.refl s) (.inl (.inl ⟨.non, fun _ => rfl⟩))
theorem rs_if {x y : List Stmt} (hc : RT X O c fc) (ha : RSs X O O' Ob m x f) (hb : RSs X O O' Ob m y g) : RS X O O' Ob m (.If c x y pos) (sIf fc f g) := ps_imp (ps_if hc ha hb) fun D σ H ⟨F, ρ, o, ρ', s, hf, k⟩ => by
  obtain ⟨⟨b, ρ1⟩, e1, hf⟩ := bind_some hf
  refine ⟨F, ρ, b, ρ1, s, e1, fun H1 F1 po => ?_⟩
  cases b with
  | true => exact iteT ⟨F1, ρ1, o, ρ', po.st, hf, k.ahead po.s⟩
  | false => exact iteF ⟨F1, ρ1, o, ρ', po.st, hf, k.ahead po.s⟩
theorem rs_expr (h : RE X O m' a fa) (hs : swapsWith a none pos.line X.env = pure false := by rfl) : RS X O O Ob m (.Expr a pos) (sDrop fa) := ps_imp (ps_expr h hs) fun D σ H ⟨F, ρ, o, ρ', s, hf, k⟩ => by
  obtain ⟨⟨p, ρ1⟩, e1, hf⟩ := bind_some hf
  cases hf
  exact ⟨F, ρ, p, _, s, e1, fun v H' F' po rs => k σ H' F' po.s⟩
/-- a slot is frozen ahead of a statement -/
theorem imp_frz (i : Nat) (hk : kd O i = .ow) : ∀ D σ H, tS O O' Ob m f D σ H → tS (O.set i .fr) O' Ob m f D σ H := fun D σ H ⟨F, ρ, o, ρ', s, hf, k⟩ => by
  obtain ⟨F1, x⟩ := s.freeze hk
  exact ⟨F1, ρ, o, ρ', x.st, hf, k.ahead x⟩
theorem rs_frz (i : Nat) (h : RS X (O.set i .fr) O' Ob m st f) (hk : kd O i = .ow := by rfl) : RS X O O' Ob m st f := ps_imp h (imp_frz i hk)
theorem rss_frz (i : Nat) (h : RSs X (O.set i .fr) O' Ob m rest f) (hk : kd O i = .ow := by rfl) : RSs X O O' Ob m rest f := pss_imp h (imp_frz i hk)
/-- .. behind it -/
theorem imp_frzB (i : Nat) (hk : kd O1 i = .ow) : ∀ D σ H, tS O (O1.set i .fr) Ob m f D σ H → tS O O1 Ob m f D σ H := fun D σ H ⟨F, ρ, o, ρ', s, hf, k⟩ => by
  refine ⟨F, ρ, o, ρ', s, hf, ?_⟩
  cases o with
  | nx =>
    intro σ' H' F' y
    obtain ⟨F1, x⟩ := y.st.freeze hk
    exact k σ' H' F1 (y.trans x)
  | bk => exact k
  | ct => exact k
  | rt p => exact k
theorem rs_frzB (i : Nat) (h : RS X O O1 Ob m st f) (hk : kd O1 i = .ow := by rfl) : RS X O (O1.set i .fr) Ob m st f := ps_imp h (imp_frzB i hk)
theorem rss_frzB (i : Nat) (h : RSs X O O1 Ob m rest f) (hk : kd O1 i = .ow := by rfl) : RSs X O (O1.set i .fr) Ob m rest f := pss_imp h (imp_frzB i hk)

/-! ### assignments -/
def sAsg (i : Nat) (a : EF) : SF := fun ρ => (a ρ).bind fun x => some (.nx, x.2.set i (some x.1))
theorem imp_asgF {i : Nat} (hf : freeK (kd O i) = true) : ∀ D σ H, tS O (O.set i .fr) Ob m (sAsg i fa) D σ H → tAsg (tE O false fa) (gName i) D σ H := fun D σ H ⟨F, ρ, o, ρ', s, hf', k⟩ => by
  obtain ⟨⟨p, ρ1⟩, e1, hf'⟩ := bind_some hf'
  cases hf'
  exact ⟨F, ρ, p, _, s, e1, fun v H' F' po rs => k _ H' F' (po.s.trans (PoS.setF po.st (res_f rs) hf))⟩
theorem imp_asgM {i : Nat} (hi : i < O.length) (hf : freeK (kd O i) = true) : ∀ D σ H, tS O (O.set i .ow) Ob m (sAsg i fa) D σ H → tAsg (tE O true fa) (gName i) D σ H := fun D σ H ⟨F, ρ, o, ρ', s, hf', k⟩ => by
  obtain ⟨⟨p, ρ1⟩, e1, hf'⟩ := bind_some hf'
  cases hf'
  exact ⟨F, ρ, p, _, s, e1, fun v H' F' po rs => k _ H' F' (StOk.setM s po rs hi hf)⟩
theorem asg_mono {t t' : TE} {g : TG} {D : Ends} {σ : L2.St} {H : Hp} (i : ∀ σ H Q, t' σ H Q → t σ H Q) (h : tAsg t' g D σ H) : tAsg t g D σ H := i σ H _ h
/-- x = e -/
theorem rs_setF (i : Nat) {x : Str} {pos' : Pos} (h : RE X O m' a fa) (hN : X.N.Nodup) (hi : X.N[i]? = some x := by rfl) (hx : Loc X.env.scope x := by first | exact Or.inl rfl | exact Or.inr rfl) (hf : freeK (kd O i) = true := by rfl) (hs : swapsWith a (some (.Name x pos')) pos.line X.env = pure false := by rfl)
    (hfn : X.fn x = true ∨ X.env.scope.names.lookup x = some .local := by first | exact .inl rfl | exact .inr rfl | assumption) : RS X O (O.set i .fr) Ob m (.Assign [.Name x pos'] a pos) (sAsg i fa) :=
  ps_imp (ps_set hN hi hx (re_dn h) hs hfn) (imp_asgF hf)
/-- x = what is new -/
theorem rs_setM (i : Nat) {x : Str} {pos' : Pos} (h : RE X O true a fa) (hN : X.N.Nodup) (hi : X.N[i]? = some x := by rfl) (hx : Loc X.env.scope x := by first | exact Or.inl rfl | exact Or.inr rfl) (hl : i < O.length := by decide) (hf : freeK (kd O i) = true := by rfl) (hs : swapsWith a (some (.Name x pos')) pos.line X.env = pure false := by rfl)
    (hfn : X.fn x = true ∨ X.env.scope.names.lookup x = some .local := by first | exact .inl rfl | exact .inr rfl | assumption) : RS X O (O.set i .ow) Ob m (.Assign [.Name x pos'] a pos) (sAsg i fa) :=
  ps_imp (ps_set hN hi hx h hs hfn) (imp_asgM hl hf)

/-! targets -/
abbrev GF := PV → Env → Option Env
/-- but the slots at vs are as they were -/
def SO (vs : List Nat) (σ σ' : L2.St) (ρ ρ' : Env) : Prop := ∀ i, i ∉ vs → σ'[i]? = σ[i]? ∧ ρ'[i]? = ρ[i]?
theorem SO.trans {vs : List Nat} {σ σ1 σ2 : L2.St} {ρ ρ1 ρ2 : Env} (x : SO vs σ σ1 ρ ρ1) (y : SO vs σ1 σ2 ρ1 ρ2) : SO vs σ σ2 ρ ρ2 := fun i h => ⟨(y i h).1.trans (x i h).1, (y i h).2.trans (x i h).2⟩
def tG (O : List Kd) (vs : List Nat) (g : GF) : TG := fun v σ H Q => ∃ F ρ p ρ', StOk O ρ σ H F ∧ Rep F p v ∧ g p ρ = some ρ' ∧ ∀ σ', PoS O O ρ σ H F ρ' σ' H F → SO vs σ σ' ρ ρ' → σ'.length = σ.length → Q σ' H
def tGs (O : List Kd) (ws : List Nat) (g : List PV → Env → Option Env) : TGs := fun vs σ H Q => ∃ F ρ p ρ', StOk O ρ σ H F ∧ Reps F p vs ∧ g p ρ = some ρ' ∧ ∀ σ', PoS O O ρ σ H F ρ' σ' H F → SO ws σ σ' ρ ρ' → σ'.length = σ.length → Q σ' H
abbrev RG (X : Cx) (O : List Kd) (vs : List Nat) (e : Expr) (g : GF) : Prop := PG X e (tG O vs g)
abbrev RGs (X : Cx) (O : List Kd) (vs : List Nat) (es : List Expr) (g : List PV → Env → Option Env) : Prop := PGs X es (tGs O vs g)
theorem pg_imp {e : Expr} {t t' : TG} (h : PG X e t) (i : ∀ v σ H Q, t' v σ H Q → t v σ H Q) : PG X e t' := ⟨fun pins s σ H v u Q I r q => h.run pins s σ H v u Q I r (i v σ H Q q)⟩
theorem pgs_imp {e : List Expr} {t t' : TGs} (h : PGs X e t) (i : ∀ v σ H Q, t' v σ H Q → t v σ H Q) : PGs X e t' := ⟨fun pins s σ H v u Q I r q => h.run pins s σ H v u Q I r (i v σ H Q q)⟩
def gN (i : Nat) : GF := fun p ρ => some (ρ.set i (some p))
def gsN : List PV → Env → Option Env := fun ps ρ => match ps with | [] => some ρ | _ => none
def gsC (g : GF) (r : List PV → Env → Option Env) : List PV → Env → Option Env := fun ps ρ => match ps with | p :: ps => (g p ρ).bind fun ρ1 => r ps ρ1 | _ => none
def gT (g : List PV → Env → Option Env) : GF := fun p ρ => match p with | .tup ps => g ps ρ | _ => none
theorem kd_set_fr {i : Nat} (h : kd O i = .fr) (j : Nat) : kd (O.set i .fr) j = kd O j := by
  rcases kd_set_or O i .fr j with e | ⟨rfl, e⟩
  · exact e
  · rw [e, h]
theorem rg_n (i : Nat) {vs : List Nat} {x : Str} (hN : X.N.Nodup) (hk : kd O i = .fr := by rfl) (hv : i ∈ vs := by decide) (hi : X.N[i]? = some x := by rfl) (hx : Loc X.env.scope x := by first | exact Or.inl rfl | exact Or.inr rfl)
    (hf : X.fn x = true ∨ X.env.scope.names.lookup x = some .local := by first | exact .inl rfl | exact .inr rfl | assumption) : RG X O vs (.Name x pos) (gN i) :=
  pg_imp (pg_name hN hi hx hf) fun v σ H Q ⟨F, ρ, p, ρ', s, r, hg, k⟩ => by
    cases hg
    exact k _ (PoS.same (kd_set_fr hk) (PoS.setF s r (by rw [hk]; rfl))) (fun j hj => ⟨set_get_ne fun z => hj (z ▸ hv), set_get_ne fun z => hj (z ▸ hv)⟩) (List.length_set ..)
theorem rgs_nil {vs : List Nat} : RGs X O vs [] gsN := pgs_imp pgs_nil fun v σ H Q ⟨F, ρ, p, ρ', s, r, hg, k⟩ => by
  cases r with
  | nil => cases hg; exact ⟨rfl, k σ (PoS.refl s) (fun _ _ => ⟨rfl, rfl⟩) rfl⟩
  | cons _ _ => cases hg
theorem rgs_cons {vs : List Nat} {e : Expr} {es : List Expr} {gf : GF} {gr : List PV → Env → Option Env} (h1 : RG X O vs e gf) (h2 : RGs X O vs es gr)
    (hs : List.map (fun x => x.snd) (assignEach (e :: es) X.env) = assign e X.env :: List.map (fun x => x.snd) (assignEach es X.env) := by rfl) : RGs X O vs (e :: es) (gsC gf gr) :=
  pgs_imp (pgs_cons h1 h2 hs) fun v σ H Q ⟨F, ρ, p, ρ', s, r, hg, k⟩ => by
    cases r with
    | nil => cases hg
    | cons r1 r2 =>
      obtain ⟨ρ1, e1, hg⟩ := bind_some hg
      exact ⟨_, _, rfl, F, ρ, _, ρ1, s, r1, e1, fun σ1 x so l1 => ⟨F, ρ1, _, ρ', x.st, r2, hg, fun σ2 y so2 l2 => k σ2 (x.trans y) (so.trans so2) (l2.trans l1)⟩⟩
def glen : List PV → Nat := List.length
def gT' (n : Nat) (g : List PV → Env → Option Env) : GF := fun p ρ => match p with | .tup ps => if ps.length = n then g ps ρ else none | _ => none
theorem rg_t {vs : List Nat} {es : List Expr} {k : Nat} {gr : List PV → Env → Option Env} {n : Nat} (h : RGs X O vs es gr) (hc : X.calm = true := by rfl) (hn : (assignEach es X.env).length = n := by rfl) (hst : (assignEach es X.env).findIdx? (·.1) = none := by rfl) : RG X O vs (.Tuple es k pos) (gT' n gr) :=
  pg_imp (pg_tup hc h hn hst) fun v σ H Q ⟨F, ρ, p, ρ', s, r, hg, k⟩ => by
    cases p <;> simp [gT'] at hg
    obtain ⟨hl, hg⟩ := hg
    cases r with
    | ref e c => cases c with
      | tup rs z => exact ⟨_, _, rfl, .inl (s.sub.rd e), by rw [← rs.length]; exact hl, F, ρ, _, ρ', s, rs, hg, k⟩
/-- target = e -/
def sAsgT (g : GF) (a : EF) : SF := fun ρ => (a ρ).bind fun x => (g x.1 x.2).bind fun ρ1 => some (.nx, ρ1)
theorem rs_asg {vs : List Nat} {tg : Expr} {gf : GF} (h : RE X O m' a fa) (hg : RG X O vs tg gf) (hs : swapsWithSole [tg] a pos.line X.env = pure false := by rfl) (hw : swappedStores [tg] a X.env = pure none := by rfl)
    (h1 : List.map (fun x => x.snd) (assignEach [tg] X.env) = [assign tg X.env] := by rfl) : RS X O O Ob m (.Assign [tg] a pos) (sAsgT gf fa) :=
  ps_imp (ps_asg (re_dn h) hg hs hw h1) fun D σ H ⟨F, ρ, o, ρ', s, hf, k⟩ => by
    obtain ⟨⟨p, ρ1⟩, e1, hf⟩ := bind_some hf
    obtain ⟨ρ2, e2, hf⟩ := bind_some hf
    cases hf
    exact ⟨F, ρ, p, ρ1, s, e1, fun v H' F' po rs => ⟨F', ρ1, p, _, po.st, res_f rs, e2, fun σ' x _ _ => k σ' H' F' (po.s.trans x)⟩⟩
end
end Pv

/-! Pv6: what is walked; for, while, comprehensions. -/
noncomputable section
namespace Pv
open PySem PySem.Spec PyProof.Rows L2

/-- the iterator walks these, as long as nothing unowned is touched -/
def WalkOk (J : It) (A : Addr → Prop) (H F : Hp) (ps : List PV) : Prop :=
  ∀ (H1 F1 : Hp) (A1 : Addr → Prop), Frm A H F H1 F1 A1 → Sub F1 H1 → (∀ i p, ps[i]? = some p → J.go i H1 ∧ ∀ x H2, J.yld i H1 x H2 → H2 = H1 ∧ Rep F1 p x) ∧ J.stop ps.length H1
def tI (O : List Kd) (r : Option Nat) (f : LF) : TI := fun σ H R => ∃ F ρ ps ρ', StOk O ρ σ H F ∧ f ρ = some (ps, ρ') ∧ ∀ J H' F', PoE O ρ σ H F ρ' H' F' → WalkOk J (OA (lockO r O) ρ' σ) H' F' ps → ps.length ≤ sizeLine → R J H'
abbrev RI (X : Cx) (O : List Kd) (r : Option Nat) (tg e : Expr) (f : LF) : Prop := PI X tg e (tI O r f)
theorem pi_imp {X : Cx} {tg e : Expr} {t t' : TI} (h : PI X tg e t) (i : ∀ σ H Q, t' σ H Q → t σ H Q) : PI X tg e t' := ⟨fun pins s σ H Q I q => h.run pins s σ H Q I (i σ H Q q)⟩
theorem pi_or {X : Cx} {tg e : Expr} {t t' : TI} (h : PI X tg e t) (h' : PI X tg e t') : PI X tg e (fun σ H Q => t σ H Q ∨ t' σ H Q) := ⟨fun pins s σ H Q I q => by
  rcases q with q | q
  · exact h.run pins s σ H Q I q
  · exact h'.run pins s σ H Q I q⟩
/-- the items of a list, a tuple, the signs of a text -/
def pIter : PV → Option (List PV)
  | .lst xs => some xs
  | .tup xs => some xs
  | .str x => if x.length ≤ LIM then some (x.cps.toList.map fun c => PV.str ⟨#[c]⟩) else none
  | _ => none
def iE (a : EF) : LF := fun ρ => (a ρ).bind fun x => (pIter x.1).bind fun ps => some (ps, x.2)
def isLstP : PV → Bool
  | .lst _ => true
  | _ => false
theorem rd_keep {A A' : Addr → Prop} {H F H1 F1 : Hp} {a : Addr} {o : HO} (x : Frm A H F H1 F1 A') (r : Rd H a o) (n : ¬ A a) : Rd H1 a o := by
  rcases r with r | ⟨u, r⟩
  · exact .inl (x.keep _ _ r n)
  · exact .inr ⟨u, x.keep _ _ r n⟩
theorem rd_fun {H : Hp} {a : Addr} {xs ys : List V} (r : Rd H a (.lst xs)) (q : Rd H a (.lst ys)) : xs = ys := by
  rcases r with r | ⟨u, r⟩ <;> rcases q with q | ⟨w, q⟩ <;> (rw [r] at q; cases q; try rfl)
section
variable {X : Cx} {O O1 O' Ob : List Kd} {m : Bool} {r : Option Nat} {tg a : Expr} {fa : EF} {pos : Pos}
theorem pi_no {t : TI} (h : ∀ σ H Q, ¬ t σ H Q) : PI X tg a t := ⟨fun _ _ σ H Q _ q => (h σ H Q q).elim⟩
theorem walk_tup {F0 : Hp} {A : Addr → Prop} {H F : Hp} {b : Addr} {ps : List PV} {vs : List V} (e : F b = some (.tup vs)) (rs : Reps F ps vs) : WalkOk (Itt X.K b) A H F ps := fun H1 F1 A1 x sub => by
  have ht : SqT X.K H1 b vs := .inl (sub.rd (x.ex _ _ e))
  have rs1 := rs.mono x.ex
  refine ⟨fun i p hp => ?_, ⟨vs, ht, by rw [rs.length]; exact Nat.le_refl _⟩⟩
  obtain ⟨v, hv, rv⟩ := rs1.get hp
  refine ⟨⟨vs, v, ht, hv⟩, fun y H2 hy => ?_⟩
  obtain ⟨e2, h⟩ := hy
  exact ⟨e2, by
    have := (h vs ht).symm.trans hv
    cases this; exact rv⟩
theorem walk_lst {A : Addr → Prop} {H F : Hp} {b : Addr} {ps : List PV} {vs : List V} (e : Rd H b (.lst vs)) (n : ¬ A b) (rs : Reps F ps vs) : WalkOk (Itl X.K b) A H F ps := fun H1 F1 A1 x sub => by
  have ht : SqL X.K H1 b vs := .inl (rd_keep x e n)
  have rs1 := rs.mono x.ex
  refine ⟨fun i p hp => ?_, ⟨vs, ht, by rw [rs.length]; exact Nat.le_refl _⟩⟩
  obtain ⟨v, hv, rv⟩ := rs1.get hp
  refine ⟨⟨vs, v, ht, hv⟩, fun y H2 hy => ?_⟩
  obtain ⟨e2, h⟩ := hy
  exact ⟨e2, by
    have := (h vs ht).symm.trans hv
    cases this; exact rv⟩
theorem ri_of (h : RR X O r a fa) : RI X O r tg a (iE fa) := by
  refine pi_imp (pi_or (pi_list (tg := tg) h) (pi_or (pi_tup (tg := tg) h) (pi_str (tg := tg) h))) fun σ H Q ⟨F, ρ, ps, ρ', s, hf, k⟩ => ?_
  obtain ⟨⟨p, ρ1⟩, e1, hf⟩ := bind_some hf
  obtain ⟨qs, e2, hf⟩ := bind_some hf
  cases hf
  cases p with
  | str x =>
    have e2' : (if x.length ≤ LIM then some (x.cps.toList.map fun c => PV.str ⟨#[c]⟩) else none) = some ps := e2
    obtain ⟨hlim, rfl⟩ := ite_some e2'
    refine .inr (.inr ⟨F, ρ, _, _, s, e1, fun v H' F' po rd => ?_⟩)
    refine ⟨x, rdv_str rd.val, k _ H' F' po (fun H1 F1 A1 y sub => ⟨fun i p hp => ?_, ?_⟩) (by rw [List.length_map, Array.length_toList]; exact lim_ok hlim)⟩
    · rw [List.getElem?_map] at hp
      obtain ⟨c, hc, rfl⟩ := Option.map_eq_some_iff.mp hp
      have hc' : x.cps[i]? = some c := by simpa using hc
      have hi : i < x.cps.size := by
        by_cases hi : i < x.cps.size
        · exact hi
        · rw [Array.getElem?_eq_none (by omega)] at hc'; cases hc'
      refine ⟨hi, fun y H2 hy => ?_⟩
      obtain ⟨e2, c', h1, h2⟩ := hy
      rw [hc'] at h1
      cases h1
      exact ⟨e2, by rw [h2]; exact .str _⟩
    · show x.cps.size ≤ _
      simp
  | tup xs =>
    have e2' : some xs = some ps := e2
    cases e2'
    refine .inr (.inl ⟨F, ρ, _, _, s, e1, fun v H' F' po rd => ?_⟩)
    obtain ⟨b, vs, rfl, fb, hb, rs, z⟩ := rdv_tup po.st.sub rd.val
    exact ⟨b, rfl, ⟨vs, .inl (.inl hb)⟩, k _ H' F' po (walk_tup (F0 := F') fb rs) z⟩
  | lst xs =>
    have e2' : some xs = some ps := e2
    cases e2'
    refine .inl ⟨F, ρ, _, _, s, e1, fun v H' F' po rd => ?_⟩
    rcases rd with h | ⟨_, b, o, rfl, hr, c, n⟩
    · cases h with
      | ref e c => cases c with
        | lst rs z =>
          refine ⟨_, rfl, ⟨_, .inl (po.st.sub.rd e)⟩, k _ H' F' po (walk_lst (po.st.sub.rd e) (fun hA => ?_) rs) z⟩
          have := (hA.unlock.there po.st).2
          rw [e] at this; cases this
    · cases c with
      | lst rs z => exact ⟨_, rfl, ⟨_, .inl hr⟩, k _ H' F' po (walk_lst hr n rs) z⟩
  | non => cases e2
  | bl _ => cases e2
  | int _ => cases e2
  | dct _ => cases e2
  | dtt _ => cases e2
/-! range -/
def rgP (lo : Int) (n : Nat) : List PV := (List.range n).map fun i => PV.int (lo + (i : Nat))
theorem rgP_get {lo : Int} {n i : Nat} {p : PV} (h : (rgP lo n)[i]? = some p) : i < n ∧ p = .int (lo + (i : Nat)) := by
  unfold rgP at h
  rw [List.getElem?_map] at h
  obtain ⟨j, hj, rfl⟩ := Option.map_eq_some_iff.mp h
  obtain ⟨hl, e⟩ := List.getElem?_eq_some_iff.mp hj
  rw [List.length_range] at hl
  rw [List.getElem_range] at e
  subst e
  exact ⟨hl, rfl⟩
theorem rgP_len {lo : Int} {n : Nat} : (rgP lo n).length = n := by unfold rgP; rw [List.length_map, List.length_range]
theorem walk_rg {A : Addr → Prop} {H F : Hp} {lo : Int} {n : Nat} : WalkOk (Itr lo n) A H F (rgP lo n) := fun H1 F1 A1 x sub => by
  refine ⟨fun i p hp => ?_, by rw [rgP_len]; exact Nat.le_refl _⟩
  obtain ⟨hi, rfl⟩ := rgP_get hp
  refine ⟨hi, fun y H2 hy => ?_⟩
  obtain ⟨e2, h⟩ := hy
  exact ⟨e2, by rw [h]; exact .int _⟩
def rgG (i j : Int) : Prop := ((-1000000000000 ≤ i ∧ i ≤ 1000000000000) ∧ (-1000000000000 ≤ j ∧ j ≤ 1000000000000) ∧ j - i ≤ 10000000)
instance (i j : Int) : Decidable (rgG i j) := Classical.propDecidable _
def rgB (i j : Int) : Bool := decide (rgG i j)
theorem rgB_of {i j : Int} (h : ((-1000000000000 ≤ i ∧ i ≤ 1000000000000) ∧ (-1000000000000 ≤ j ∧ j ≤ 1000000000000) ∧ j - i ≤ 10000000)) : rgB i j = true := decide_eq_true (show rgG i j from h)
theorem rgB_to {i j : Int} (h : rgB i j = true) : ((-1000000000000 ≤ i ∧ i ≤ 1000000000000) ∧ (-1000000000000 ≤ j ∧ j ≤ 1000000000000) ∧ j - i ≤ 10000000) := of_decide_eq_true (p := rgG i j) h
theorem rgB_ok {i j : Int} (h : rgB i j = true) : (-(2 ^ 62) ≤ i ∧ i < 2 ^ 62 ∧ -(2 ^ 62) ≤ j ∧ j < 2 ^ 62) ∧ (j - i).toNat ≤ sizeLine := by
  have := rgB_to h
  rw [sizeLine_eq]
  omega
def iRg1 (a : EF) : LF := fun ρ => (a ρ).bind fun x => match x.1 with | .int j => if rgB 0 j then some (rgP 0 j.toNat, x.2) else none | _ => none
def iRg2 (a b : EF) : LF := fun ρ => (a ρ).bind fun x => (b x.2).bind fun y => match x.1, y.1 with | .int i, .int j => if rgB i j then some (rgP i (j - i).toNat, y.2) else none | _, _ => none
theorem res_int {m : Bool} {b : Int} {v : V} {H H' F' : Hp} {A : Addr → Prop} (h : Res m (.int b) v H H' F' A) : v = .int b := by
  rcases h with ⟨h, _⟩ | ⟨_, z, _⟩
  · exact rep_int h
  · cases z
theorem ri_rg1 {p : Pos} (hm : X.mg "range" = none) (h : RE X O m a fa) (hg : Gl X "range" := by rfl) (hs : starEach [a] X.env = [(false, eval a X.env)] := by rfl) : RI X O none tg (.Call (.Name "range" p) [a] [] pos) (iRg1 fa) :=
  pi_imp (pi_range1 hg hm (pa_cons h pa_nil hs) hs) fun σ H Q ⟨F, ρ, ps, ρ', s, hf, k⟩ => by
    obtain ⟨⟨x, ρ1⟩, e1, hf⟩ := bind_some hf
    cases x <;> simp at hf
    obtain ⟨hb, rfl, rfl⟩ := hf
    refine ⟨F, ρ, _, _, s, e1, fun v H' F' po rs => ⟨_, by rw [res_int rs], (rgB_ok hb).1.2.2.1, (rgB_ok hb).1.2.2.2, k _ H' F' po walk_rg (by have := (rgB_ok hb).2; rw [rgP_len]; simpa using this)⟩⟩
theorem ri_rg2 {b : Expr} {fb : EF} {m' : Bool} {p : Pos} (hm : X.mg "range" = none) (h : RE X O m a fa) (h' : RE X O m' b fb) (hg : Gl X "range" := by rfl)
    (hs : starEach [a, b] X.env = [(false, eval a X.env), (false, eval b X.env)] := by rfl) (hs2 : starEach [b] X.env = [(false, eval b X.env)] := by rfl) (hs3 : starEach [a, b] X.env = (false, eval a X.env) :: starEach [b] X.env := by rfl) : RI X O none tg (.Call (.Name "range" p) [a, b] [] pos) (iRg2 fa fb) :=
  pi_imp (pi_range2 hg hm (pa_cons h (pa_cons h' pa_nil hs2) hs3) hs hs2) fun σ H Q ⟨F, ρ, ps, ρ', s, hf, k⟩ => by
    obtain ⟨⟨x, ρ1⟩, e1, hf⟩ := bind_some hf
    obtain ⟨⟨y, ρ2⟩, e2, hf⟩ := bind_some hf
    cases x <;> cases y <;> simp at hf
    obtain ⟨hb, rfl, rfl⟩ := hf
    refine ⟨F, ρ, _, _, s, e1, fun v H' F' po rs => ⟨F', _, _, _, po.st, e2, fun v' H2 F2 po2 rs2 => ⟨_, _, by rw [res_int rs, res_int rs2], (rgB_ok hb).1, k _ H2 F2 (po.trans po2) walk_rg (by rw [rgP_len]; exact (rgB_ok hb).2)⟩⟩⟩
/-- a range with a step: its turns -/
def rgC (lo c : Int) (n : Nat) : List PV := (List.range n).map fun i => PV.int (lo + (i : Nat) * c)
theorem rgC_get {lo c : Int} {n i : Nat} {p : PV} (h : (rgC lo c n)[i]? = some p) : i < n ∧ p = .int (lo + (i : Nat) * c) := by
  unfold rgC at h
  rw [List.getElem?_map] at h
  obtain ⟨j, hj, rfl⟩ := Option.map_eq_some_iff.mp h
  obtain ⟨hl, e⟩ := List.getElem?_eq_some_iff.mp hj
  rw [List.length_range] at hl
  rw [List.getElem_range] at e
  subst e
  exact ⟨hl, rfl⟩
theorem rgC_len {lo c : Int} {n : Nat} : (rgC lo c n).length = n := by unfold rgC; rw [List.length_map, List.length_range]
theorem walk_rgC {A : Addr → Prop} {H F : Hp} {lo c : Int} {n : Nat} : WalkOk (Itc lo c n) A H F (rgC lo c n) := fun H1 F1 A1 x sub => by
  refine ⟨fun i p hp => ?_, by rw [rgC_len]; exact Nat.le_refl _⟩
  obtain ⟨hi, rfl⟩ := rgC_get hp
  refine ⟨hi, fun y H2 hy => ?_⟩
  obtain ⟨e2, h⟩ := hy
  exact ⟨e2, by rw [h]; exact .int _⟩

/-! ### for -/
def loopF (g : GF) (body : SF) : List PV → Env → Option (Out × Env)
  | [], ρ => some (.nx, ρ)
  | p :: ps, ρ => (g p ρ).bind fun ρ1 => (body ρ1).bind fun x => match x.1 with
    | .nx => loopF g body ps x.2
    | .ct => loopF g body ps x.2
    | .bk => some (.nx, x.2)
    | .rt q => some (.rt q, x.2)
def sFor (it : LF) (g : GF) (body : SF) : SF := fun ρ => (it ρ).bind fun x => loopF g body x.1 x.2
theorem drop_get {α : Type} {l : List α} {i : Nat} {x : α} (h : l[i]? = some x) : l.drop i = x :: l.drop (i + 1) := by
  obtain ⟨hi, e⟩ := List.getElem?_eq_some_iff.mp h
  rw [List.drop_eq_getElem_cons hi, e]
theorem rs_for {vs : List Nat} {it : Expr} {fi : LF} {gf : GF} {fb : SF} {body : List Stmt} (hi : RI X O r tg it fi) (hg : RG X (lockO r O) vs tg gf) (hb : RSs X (lockO r O) (lockO r O) (lockO r O) m body fb) (hc : X.calm = true := by rfl) (hp : PassesOwn (model X.prog X.w) X.A X.env X.xe := by exact PassesOwn.never)
    (hs : ∀ v, foldedSetIterable it X.env v = pure v := by intro _; rfl) : RS X O O Ob m (.For tg it body [] pos) (sFor fi gf fb) := by
  refine ps_imp (ps_for hp hc hi hg hb hs) fun D σ H ⟨F, ρ, o, ρ', s, hf, k⟩ => ?_
  obtain ⟨⟨ps, ρ1⟩, e1, hf⟩ := bind_some hf
  refine ⟨F, ρ, ps, ρ1, s, e1, fun J H1 F1 po wk hz => ?_⟩
  have sL := po.st.lock r
  refine ⟨fun i n σ2 H2 => ∃ F2 ρ2, PoS (lockO r O) (lockO r O) ρ1 σ H1 F1 ρ2 σ2 H2 F2 ∧ n = ps.length - i ∧ i ≤ ps.length ∧ loopF gf fb (ps.drop i) ρ2 = some (o, ρ'), ⟨ps.length, F1, ρ1, PoS.refl sL, by simp, Nat.zero_le _, hf⟩, ?_⟩
  rintro i n σ2 H2 ⟨F2, ρ2, x, rfl, hle, hl⟩
  obtain ⟨w1, w2⟩ := wk H2 F2 _ x.fr x.st.sub
  have fin : ∀ {ρ3 σ3 H3 F3}, PoS (lockO r O) (lockO r O) ρ1 σ H1 F1 ρ3 σ3 H3 F3 → PoS O O ρ σ H F ρ3 σ3 H3 F3 := fun y => po.s.trans (y.unlock po.st)
  by_cases hlt : i < ps.length
  · obtain ⟨p, hp⟩ : ∃ p, ps[i]? = some p := ⟨_, List.getElem?_eq_getElem hlt⟩
    rw [drop_get hp] at hl
    obtain ⟨ρ3, e3, hl⟩ := bind_some hl
    obtain ⟨⟨o4, ρ4⟩, e4, hl⟩ := bind_some hl
    obtain ⟨g1, g2⟩ := w1 i p hp
    refine .inr ⟨g1, fun σ5 H5 => ∃ F5 ρ5, PoS (lockO r O) (lockO r O) ρ1 σ H1 F1 ρ5 σ5 H5 F5 ∧ loopF gf fb (ps.drop (i + 1)) ρ5 = some (o, ρ'), fun σ5 H5 ⟨F5, ρ5, y, hy⟩ => ⟨ps.length - (i + 1), by omega, F5, ρ5, y, rfl, hlt, hy⟩, fun v H3 hy => ?_⟩
    obtain ⟨rfl, rv⟩ := g2 v H3 hy
    refine ⟨F2, ρ2, p, ρ3, x.st, rv, e3, fun σ3 z _ _ => ⟨F2, ρ3, o4, ρ4, z.st, e4, ?_⟩⟩
    have y := x.trans z
    cases o4 with
    | nx => exact fun σ' H' F' q => ⟨F', ρ4, y.trans q, hl⟩
    | ct => exact fun σ' H' F' q => ⟨F', ρ4, y.trans q, hl⟩
    | bk =>
      cases hl
      exact fun σ' H' F' q => k σ' H' F' (fin (y.trans q))
    | rt u =>
      cases hl
      intro v' σ' H' F' O2 q rs
      have y2 := y.trans q
      exact k v' σ' H' F' _ (po.s.trans (y2.unlockG po.st)) (((rs.transS y).unlockG po.st y2).transS po.s)
  · have e : i = ps.length := by omega
    subst e
    rw [List.drop_length] at hl
    cases hl
    exact .inl ⟨w2, k σ2 H2 F2 (fin x)⟩
end
end Pv

/-! Pv7: while; comprehensions. -/
noncomputable section
namespace Pv
open PySem PySem.Spec PyProof.Rows L2

/-! ### while -/
def whN (c : TF) (b : SF) : Nat → Env → Option (Out × Env)
  | 0, _ => none
  | n + 1, ρ => (c ρ).bind fun x => if x.1 then (b x.2).bind fun y => match y.1 with
      | .nx => whN c b n y.2
      | .ct => whN c b n y.2
      | .bk => some (.nx, y.2)
      | .rt q => some (.rt q, y.2)
    else some (.nx, x.2)
open Classical in
noncomputable def sWhile (c : TF) (b : SF) : SF := fun ρ => if h : ∃ r : Out × Env, ∃ n, whN c b n ρ = some r then some h.choose else none
theorem whN_mono {c : TF} {b : SF} {r : Out × Env} : ∀ {n m : Nat} {ρ : Env}, n ≤ m → whN c b n ρ = some r → whN c b m ρ = some r
  | 0, _, _, _, h => by cases h
  | n + 1, 0, _, hm, _ => by omega
  | n + 1, m + 1, ρ, hm, h => by
    unfold whN at h ⊢
    obtain ⟨⟨x, ρ1⟩, e1, h⟩ := bind_some h
    rw [e1]
    show (if x = true then _ else _) = _
    cases x with
    | false => exact h
    | true =>
      obtain ⟨⟨o, ρ2⟩, e2, h⟩ := bind_some h
      rw [if_pos rfl, e2]
      show (match o with | .nx => _ | .ct => _ | .bk => _ | .rt q => _) = _
      cases o with
      | nx => exact whN_mono (by omega) h
      | ct => exact whN_mono (by omega) h
      | bk => exact h
      | rt q => exact h
theorem sWhile_of {c : TF} {b : SF} {r : Out × Env} {n : Nat} {ρ : Env} (h : whN c b n ρ = some r) : sWhile c b ρ = some r := by
  have ex : ∃ r : Out × Env, ∃ n, whN c b n ρ = some r := ⟨r, n, h⟩
  unfold sWhile
  rw [dif_pos ex]
  obtain ⟨k, hk⟩ := ex.choose_spec
  have h1 := whN_mono (Nat.le_max_left n k) h
  have h2 := whN_mono (Nat.le_max_right n k) hk
  rw [h1] at h2
  exact congrArg some (Option.some.inj h2.symm)
theorem sWhile_some {c : TF} {b : SF} {r : Out × Env} {ρ : Env} (h : sWhile c b ρ = some r) : ∃ n, whN c b n ρ = some r := by
  unfold sWhile at h
  by_cases ex : ∃ r : Out × Env, ∃ n, whN c b n ρ = some r
  · rw [dif_pos ex] at h
    rw [← Option.some.inj h]
    exact ex.choose_spec
  · rw [dif_neg ex] at h; cases h
section
variable {X : Cx} {O O1 O' Ob : List Kd} {m : Bool} {r : Option Nat} {tg a : Expr} {fa : EF} {pos : Pos}
theorem rs_while {c : Expr} {fc : TF} {fb : SF} {body : List Stmt} (hc : RT X O c fc) (hb : RSs X O O O m body fb) (hp : PassesOwn (model X.prog X.w) X.A X.env X.xe := by exact PassesOwn.never) : RS X O O Ob m (.While c body [] pos) (sWhile fc fb) := by
  refine ps_imp (ps_while hp hc hb) fun D σ H ⟨F, ρ, o, ρ', s, hf, k⟩ => ?_
  obtain ⟨n, hn⟩ := sWhile_some hf
  refine ⟨fun n σ2 H2 => ∃ F2 ρ2, PoS O O ρ σ H F ρ2 σ2 H2 F2 ∧ whN fc fb n ρ2 = some (o, ρ'), ⟨n, F, ρ, PoS.refl s, hn⟩, ?_⟩
  rintro n σ2 H2 ⟨F2, ρ2, x, hw⟩
  cases n with
  | zero => cases hw
  | succ n =>
    unfold whN at hw
    obtain ⟨⟨b, ρ3⟩, e1, hw⟩ := bind_some hw
    refine ⟨F2, ρ2, b, ρ3, x.st, e1, fun H3 F3 po => ?_⟩
    have y := x.trans po.s
    cases b with
    | false =>
      cases hw
      exact iteF (k σ2 H3 F3 y)
    | true =>
      obtain ⟨⟨o4, ρ4⟩, e4, hw⟩ := bind_some hw
      refine iteT ⟨fun σ5 H5 => ∃ F5 ρ5, PoS O O ρ σ H F ρ5 σ5 H5 F5 ∧ whN fc fb n ρ5 = some (o, ρ'), fun σ5 H5 h5 => ⟨n, Nat.lt_succ_self n, h5⟩, F3, ρ3, o4, ρ4, po.st, e4, ?_⟩
      cases o4 with
      | nx => exact fun σ' H' F' q => ⟨F', ρ4, y.trans q, hw⟩
      | ct => exact fun σ' H' F' q => ⟨F', ρ4, y.trans q, hw⟩
      | bk =>
        cases hw
        exact fun σ' H' F' q => k σ' H' F' (y.trans q)
      | rt u =>
        cases hw
        intro v σ' H' F' O2 q rs
        exact k v σ' H' F' O2 (y.trans q) (rs.transS y)
end

/-! ### comprehensions -/
def wipeP (ρ : Env) : List Nat → Env
  | [] => ρ
  | v :: vs => (wipeP ρ vs).set v none
def restP (ρ ρ' : Env) : List Nat → Env
  | [] => ρ'
  | v :: vs => (restP ρ ρ' vs).set v (ρ.getD v none)
def lcL (g : GF) (tt : TF) (te : EF) (vs : List Nat) : List PV → Env → Option (List PV × Env)
  | [], ρ => some ([], ρ)
  | p :: ps, ρ => (g p ρ).bind fun ρ1 => (tt ρ1).bind fun b => if b.1 then (te b.2).bind fun y => (lcL g tt te vs ps (wipeP y.2 vs)).bind fun r => some (y.1 :: r.1, r.2) else lcL g tt te vs ps (wipeP b.2 vs)
def tYesF : TF := fun ρ => some (true, ρ)
def iLc (fi : LF) (g : GF) (tt : TF) (te : EF) (vs : List Nat) : LF := fun ρ => (fi ρ).bind fun x => (lcL g tt te vs x.1 (wipeP x.2 vs)).bind fun r => some (r.1, restP x.2 r.2 vs)
def eLc (fi : LF) (g : GF) (tt : TF) (te : EF) (vs : List Nat) : EF := fun ρ => (iLc fi g tt te vs ρ).bind fun r => some (.lst r.1, r.2)
theorem wipe_getV {σ : L2.St} {i : Nat} : ∀ {vs : List Nat}, (wipe σ vs)[i]? = if i ∈ vs then σ[i]?.map (fun _ => none) else σ[i]?
  | [] => by simp [wipe]
  | v :: vs => by
    unfold wipe
    rw [List.getElem?_set, wipe_getV (vs := vs), wipe_length]
    by_cases e : v = i
    · subst e
      rw [if_pos rfl, if_pos List.mem_cons_self]
      by_cases l : v < σ.length
      · rw [if_pos l, List.getElem?_eq_getElem l]; rfl
      · rw [if_neg l, List.getElem?_eq_none (by omega)]; rfl
    · rw [if_neg e]
      by_cases m : i ∈ vs
      · rw [if_pos m, if_pos (List.mem_cons_of_mem _ m)]
      · rw [if_neg m, if_neg (fun z => (List.mem_cons.mp z).elim (fun q => e q.symm) m)]
theorem wipeP_length (ρ : Env) : ∀ vs : List Nat, (wipeP ρ vs).length = ρ.length
  | [] => rfl
  | v :: vs => by unfold wipeP; rw [List.length_set, wipeP_length ρ vs]
theorem restP_length (ρ ρ' : Env) : ∀ vs : List Nat, (restP ρ ρ' vs).length = ρ'.length
  | [] => rfl
  | v :: vs => by unfold restP; rw [List.length_set, restP_length ρ ρ' vs]
theorem wipeP_get {σ : Env} {i : Nat} : ∀ {vs : List Nat}, (wipeP σ vs)[i]? = if i ∈ vs then σ[i]?.map (fun _ => none) else σ[i]?
  | [] => by simp [wipeP]
  | v :: vs => by
    unfold wipeP
    rw [List.getElem?_set, wipeP_get (vs := vs), wipeP_length]
    by_cases e : v = i
    · subst e
      rw [if_pos rfl, if_pos List.mem_cons_self]
      by_cases l : v < σ.length
      · rw [if_pos l, List.getElem?_eq_getElem l]; rfl
      · rw [if_neg l, List.getElem?_eq_none (by omega)]; rfl
    · rw [if_neg e]
      by_cases m : i ∈ vs
      · rw [if_pos m, if_pos (List.mem_cons_of_mem _ m)]
      · rw [if_neg m, if_neg (fun z => (List.mem_cons.mp z).elim (fun q => e q.symm) m)]
theorem restP_get {ρ ρ' : Env} (hl : ρ'.length = ρ.length) {i : Nat} : ∀ {vs : List Nat}, (restP ρ ρ' vs)[i]? = if i ∈ vs then ρ[i]? else ρ'[i]?
  | [] => by simp [restP]
  | v :: vs => by
    unfold restP
    rw [List.getElem?_set, restP_get hl (vs := vs), restP_length]
    by_cases e : v = i
    · subst e
      rw [if_pos rfl, if_pos List.mem_cons_self]
      by_cases l : v < ρ.length
      · rw [if_pos (by omega), List.getElem?_eq_getElem l, List.getD_eq_getElem?_getD, List.getElem?_eq_getElem l]; rfl
      · rw [if_neg (by omega), List.getElem?_eq_none (by omega)]
    · rw [if_neg e]
      by_cases m : i ∈ vs
      · rw [if_pos m, if_pos (List.mem_cons_of_mem _ m)]
      · rw [if_neg m, if_neg (fun z => (List.mem_cons.mp z).elim (fun q => e q.symm) m)]
theorem wipeP_some {ρ : Env} {vs : List Nat} {i : Nat} {p : PV} (h : (wipeP ρ vs)[i]? = some (some p)) : i ∉ vs ∧ ρ[i]? = some (some p) := by
  rw [wipeP_get] at h
  by_cases m : i ∈ vs
  · rw [if_pos m] at h
    obtain ⟨_, _, z⟩ := Option.map_eq_some_iff.mp h
    cases z
  · rw [if_neg m] at h; exact ⟨m, h⟩
/-- the names of the block are kept apart: they own nothing -/
def vsFr (O : List Kd) (vs : List Nat) : Bool := vs.all fun i => decide (kd O i = .fr)
theorem vsFr_at {O : List Kd} {vs : List Nat} (h : vsFr O vs = true) {i : Nat} (hi : i ∈ vs) : kd O i = .fr := of_decide_eq_true (List.all_eq_true.mp h i hi)
section
variable {O : List Kd} {ρ ρ' : Env} {σ : L2.St} {H F H' F' : Hp} {vs : List Nat}
theorem OA.wipe (hv : vsFr O vs = true) {a : Addr} : OA O (wipeP ρ vs) (wipe σ vs) a ↔ OA O ρ σ a := by
  constructor
  · rintro ⟨i, h1, ⟨p, h2, m⟩, h3⟩
    obtain ⟨ni, h2⟩ := wipeP_some h2
    rw [wipe_getV, if_neg ni] at h3
    exact ⟨i, h1, ⟨p, h2, m⟩, h3⟩
  · rintro ⟨i, h1, ⟨p, h2, m⟩, h3⟩
    have ni : i ∉ vs := fun z => by
      rw [vsFr_at hv z] at h1; cases h1
    exact ⟨i, h1, ⟨p, by rw [wipeP_get, if_neg ni]; exact h2, m⟩, by rw [wipe_getV, if_neg ni]; exact h3⟩
theorem StOk.wipe (s : StOk O ρ σ H F) (vs : List Nat) : StOk O (wipeP ρ vs) (wipe σ vs) H F where
  sub := s.sub
  len := by rw [wipeP_length, wipe_length]; exact s.len
  slot := fun i p hp => by
    obtain ⟨ni, hp⟩ := wipeP_some hp
    obtain ⟨v, hv, sl⟩ := s.slot i p hp
    exact ⟨v, by rw [wipe_getV, if_neg ni]; exact hv, sl⟩
  dis := fun i j a p ne ho hk hp hs => by
    obtain ⟨nj, hp⟩ := wipeP_some hp
    rw [wipe_getV, if_neg nj] at hs
    obtain ⟨h1, ⟨q, h2, m⟩, h3⟩ := ho
    obtain ⟨ni, h2⟩ := wipeP_some h2
    rw [wipe_getV, if_neg ni] at h3
    exact s.dis i j a p ne ⟨h1, ⟨q, h2, m⟩, h3⟩ hk hp hs
theorem Frm.iff {A A' B B' : Addr → Prop} (h : Frm A H F H' F' A') (e : ∀ a, A a ↔ B a) (e' : ∀ a, A' a ↔ B' a) : Frm B H F H' F' B' where
  ex := h.ex
  keep := fun b o q n => h.keep b o q fun z => n ((e b).mp z)
  asub := fun b z => (h.asub b ((e' b).mpr z)).imp (e b).mp id
  fgr := fun b z => (h.fgr b z).imp id fun q => q.imp (e b).mp id
  nv := h.nv
end
theorem StOk.grow {O : List Kd} {ρ : Env} {σ : L2.St} {H F : Hp} {D : Addr} {o' : HO} (s : StOk O ρ σ H F) (fD : F D = none) (n : ∀ j b q, kd O j ≠ .fr → ρ[j]? = some (some q) → σ[j]? = some (some (.ref b)) → isM q = true → b ≠ D) : StOk O ρ σ (upd H D o') F := by
  have keep : ∀ b u, H b = some u → b ≠ D → upd H D o' b = some u := fun b u e ne => by rw [upd_ne ne]; exact e
  refine ⟨fun b u e => ?_, s.len, fun j q hq => ?_, s.dis⟩
  · have ne : b ≠ D := by
      rintro rfl
      rw [fD] at e; cases e
    rw [upd_ne ne]; exact s.sub b u e
  · obtain ⟨u, hu, sl⟩ := s.slot j q hq
    refine ⟨u, hu, ?_⟩
    have nb : ∀ b, u = .ref b → isM q = true → kd O j ≠ .fr → b ≠ D := fun b e1 m1 k1 => n j b q k1 hq (by rw [hu, e1]) m1
    generalize hkk : kd O j = k at sl nb
    have own : (isM q = false ∧ Rep F q u) ∨ (isM q = true ∧ Own H F q u) → k ≠ .fr → (isM q = false ∧ Rep F q u) ∨ (isM q = true ∧ Own (upd H D o') F q u) := fun h kn => by
      rcases h with h | ⟨m1, b, w, e1, r, f1, c1⟩
      · exact .inl h
      · exact .inr ⟨m1, b, w, e1, keep _ _ r (nb b e1 m1 kn), f1, c1⟩
    cases k with
    | fr => exact sl
    | lk =>
      rcases sl with z | ⟨m1, b, w, e1, r, c1⟩
      · exact .inl z
      · refine .inr ⟨m1, b, w, e1, ?_, c1⟩
        have ne := nb b e1 m1 (fun z => by cases z)
        rcases r with r | ⟨t, r⟩
        · exact .inl (keep _ _ r ne)
        · exact .inr ⟨t, keep _ _ r ne⟩
    | ow => exact own sl (fun z => by cases z)
    | io => exact own sl (fun z => by cases z)
theorem Frm.grow {A A' : Addr → Prop} {H F H' F' : Hp} {D : Addr} {o : HO} (x : Frm A H F H' F' A') (h : H D = none) : Frm A H F (upd H' D o) F' A' where
  ex := x.ex
  keep := fun b u e n => by rw [upd_ne (ne_of_none e h)]; exact x.keep b u e n
  asub := x.asub
  fgr := x.fgr
  nv := fun b e => by
    by_cases q : b = D
    · subst q; rw [upd_same]; simp
    · rw [upd_ne q]; exact x.nv b e
theorem Reps.snoc {F : Hp} {ps : List PV} {vs : List V} {p : PV} {v : V} (r : Reps F ps vs) (q : Rep F p v) : Reps F (ps ++ [p]) (vs ++ [v]) := r.append (.one q)
section
variable {X : Cx} {O : List Kd} {m : Bool} {r : Option Nat} {fi : LF} {gf : GF} {tt : TF} {te : EF} {vs : List Nat}
theorem imp_lc (hv : vsFr O vs = true) : ∀ σ H Q, tE O true (eLc fi gf tt te vs) σ H Q → tLc (tI O r fi) (tG (lockO r O) vs gf) (tT (lockO r O) tt) (tE (lockO r O) false te) vs σ H Q := fun σ H Q ⟨F, ρ, p, ρ', s, hf, k⟩ => by
  have hf0 : (iLc fi gf tt te vs ρ).bind (fun r => some (PV.lst r.1, r.2)) = some (p, ρ') := hf
  obtain ⟨⟨rs, ρ9⟩, hf1, hf2⟩ := bind_some hf0
  cases hf2
  have hf1' : ((fi ρ).bind fun x => (lcL gf tt te vs x.1 (wipeP x.2 vs)).bind fun r => some (r.1, restP x.2 r.2 vs)) = some (rs, ρ9) := hf1
  obtain ⟨⟨ps, ρ1⟩, e1, hf⟩ := bind_some hf1'
  obtain ⟨⟨out, ρf⟩, e2, hf⟩ := bind_some hf
  cases hf
  have hvL : vsFr (lockO r O) vs = true := by
    refine List.all_eq_true.mpr fun i hi => decide_eq_true ?_
    rcases lockO_kd r O i with e | ⟨_, _, e⟩
    · rw [e]; exact vsFr_at hv hi
    · rw [vsFr_at hv hi] at e; cases e
  refine ⟨F, ρ, ps, ρ1, s, e1, fun J H1 F1 po wk hz D hD => ?_⟩
  have sL := (po.st.lock r).wipe vs
  have hDF : F1 D = none := po.st.sub.nil hD
  let OL := lockO r O
  -- what holds ahead of turn i
  let St := fun (i : Nat) (H2 : Hp) => ∃ F2 ρ2 acc accp, StOk OL ρ2 (wipe σ vs) H2 F2 ∧ Frm (OA OL (wipeP ρ1 vs) (wipe σ vs)) H1 F1 H2 F2 (OA OL ρ2 (wipe σ vs)) ∧ EK OL (wipeP ρ1 vs) ρ2 ∧ wipeP ρ2 vs = ρ2 ∧
    H2 D = some (.lst acc) ∧ F2 D = none ∧ ¬ OA OL ρ2 (wipe σ vs) D ∧ Reps F2 accp acc ∧ accp.length ≤ i ∧ ∃ rest, lcL gf tt te vs (ps.drop i) ρ2 = some (rest, ρf) ∧ out = accp ++ rest
  have wipe2 : ∀ (ρ : Env), wipeP (wipeP ρ vs) vs = wipeP ρ vs := fun ρ => by
    apply List.ext_getElem?
    intro i
    rw [wipeP_get, wipeP_get]
    by_cases m : i ∈ vs
    · rw [if_pos m, if_pos m]; cases ρ[i]? <;> rfl
    · rw [if_neg m, if_neg m]
  refine ⟨fun i n H2 => n = ps.length - i ∧ i ≤ ps.length ∧ St i H2, ⟨ps.length, by simp, Nat.zero_le _, F1, wipeP ρ1 vs, [], [], sL.new hD, Frm.new hD, EK.refl _ _, wipe2 _, upd_same, hDF, fun z => (z.there sL).1 hD, .nil, Nat.le_refl _, out, e2, rfl⟩, ?_⟩
  rintro i n H2 ⟨rfl, hle, F2, ρ2, acc, accp, st2, fr2, ek2, w2, hD2, fD2, nA2, rp2, hl2, rest, hlc, hout⟩
  have nDlk : ∀ {ρ2 : Env}, EK OL (wipeP ρ1 vs) ρ2 → ¬ OA OL ρ2 (wipe σ vs) D → ∀ j b q, kd OL j ≠ .fr → ρ2[j]? = some (some q) → (wipe σ vs)[j]? = some (some (.ref b)) → isM q = true → b ≠ D := fun {ρ2} ek2 nA2 j b q hk hq hs m => by
    rintro rfl
    by_cases ho : (kd OL j).own = true
    · exact nA2 ⟨j, ho, ⟨q, hq, m⟩, hs⟩
    · have hq0 : (wipeP ρ1 vs)[j]? = some (some q) := by rw [← ek2.2 j (by simpa using ho)]; exact hq
      obtain ⟨v, hv', sl⟩ := sL.slot j q hq0
      rw [hs] at hv'; cases hv'
      exact sl.at sL.sub hD
  obtain ⟨wk1, wk2⟩ := wk H2 F2 _ (fr2.iff (fun a => OA.wipe hvL) fun _ => Iff.rfl) st2.sub
  by_cases hlt : i < ps.length
  · obtain ⟨p, hp⟩ : ∃ p, ps[i]? = some p := ⟨_, List.getElem?_eq_getElem hlt⟩
    rw [drop_get hp] at hlc
    obtain ⟨ρ3, e3, hlc⟩ := bind_some hlc
    obtain ⟨⟨b, ρ4⟩, e4, hlc⟩ := bind_some hlc
    obtain ⟨g1, g2⟩ := wk1 i p hp
    refine .inr ⟨g1, St (i + 1), fun H' h' => ⟨ps.length - (i + 1), by omega, rfl, hlt, h'⟩, fun v H3 hy => ?_⟩
    obtain ⟨rfl, rv⟩ := g2 v H3 hy
    refine ⟨F2, ρ2, p, ρ3, st2, rv, e3, fun σ3 z so hlen => ⟨?_, F2, ρ3, b, ρ4, z.st, e4, fun H4 F4 po4 => ?_⟩⟩
    · apply List.ext_getElem?
      intro j
      rw [wipe_getV, wipe_getV]
      by_cases mj : j ∈ vs
      · rw [if_pos mj, if_pos mj]
        have hl3 : σ3.length = σ.length := by rw [hlen, wipe_length]
        by_cases lj : j < σ.length
        · rw [List.getElem?_eq_getElem (by omega), List.getElem?_eq_getElem lj]; rfl
        · rw [List.getElem?_eq_none (by omega), List.getElem?_eq_none (by omega)]
      · rw [if_neg mj, if_neg mj, (so j mj).1, wipe_getV, if_neg mj]
    · -- behind the test: the names of the block forgotten again
      have wσ : wipe σ3 vs = wipe σ vs := by
        apply List.ext_getElem?
        intro j
        rw [wipe_getV, wipe_getV]
        by_cases mj : j ∈ vs
        · rw [if_pos mj, if_pos mj]
          have hl3 : σ3.length = σ.length := by rw [hlen, wipe_length]
          by_cases lj : j < σ.length
          · rw [List.getElem?_eq_getElem (by omega), List.getElem?_eq_getElem lj]; rfl
          · rw [List.getElem?_eq_none (by omega), List.getElem?_eq_none (by omega)]
        · rw [if_neg mj, if_neg mj, (so j mj).1, wipe_getV, if_neg mj]
      have y4 := z.trans po4.s
      -- from a state of the block to the next turn
      have back : ∀ {ρ5 H5 F5}, PoS OL OL ρ2 (wipe σ vs) H3 F2 ρ5 σ3 H5 F5 → EK OL ρ3 ρ5 →
          StOk OL (wipeP ρ5 vs) (wipe σ vs) H5 F5 ∧ Frm (OA OL ρ2 (wipe σ vs)) H3 F2 H5 F5 (OA OL (wipeP ρ5 vs) (wipe σ vs)) ∧ EK OL (wipeP ρ1 vs) (wipeP ρ5 vs) ∧ H5 D = some (.lst acc) ∧ F5 D = none ∧ ¬ OA OL (wipeP ρ5 vs) (wipe σ vs) D := fun {ρ5 H5 F5} y ek5 => by
        have s5 := y.st.wipe vs
        rw [wσ] at s5
        have e5 : ∀ a, OA OL ρ5 σ3 a ↔ OA OL (wipeP ρ5 vs) (wipe σ vs) a := fun a => by
          rw [← wσ]
          exact (OA.wipe hvL).symm
        have fr5 := y.fr.iff (fun _ => Iff.rfl) e5
        have hD5 := fr5.keep D _ hD2 nA2
        refine ⟨s5, fr5, ⟨?_, fun j hj => ?_⟩, hD5, ?_, fun h => ?_⟩
        · rw [wipeP_length, wipeP_length, ek5.1]
          have := z.st.len
          rw [this, hlen, wipe_length]
          have q := po.st.len
          omega
        · rw [wipeP_get]
          by_cases mj : j ∈ vs
          · rw [if_pos mj, wipeP_get, if_pos mj]
            have q1 := z.st.len
            have q2 := po.st.len
            have q3 := ek5.1
            rw [hlen, wipe_length] at q1
            by_cases lj : j < ρ1.length
            · rw [List.getElem?_eq_getElem lj, List.getElem?_eq_getElem (by omega)]; rfl
            · rw [List.getElem?_eq_none (show ρ1.length ≤ j by omega), List.getElem?_eq_none (by omega)]
          · rw [if_neg mj, ek5.2 j hj, (so j mj).2, ek2.2 j hj]
        · cases q : F5 D with
          | none => rfl
          | some u =>
            rcases fr5.fgr D (by rw [q]; simp) with w | w | w
            · exact absurd fD2 w
            · exact absurd w nA2
            · rw [hD2] at w; cases w
        · rcases fr5.asub D h with w | w
          · exact nA2 w
          · rw [hD2] at w; cases w
      cases b with
      | false =>
        obtain ⟨s5, f5, k5, d5, fd5, n5⟩ := back y4 po4.ek
        exact iteF ⟨F4, wipeP ρ4 vs, acc, accp, s5, fr2.trans f5, k5, wipe2 _, d5, fd5, n5, rp2.mono f5.ex, by omega, rest, hlc, hout⟩
      | true =>
        obtain ⟨⟨q, ρ5⟩, e5, hlc⟩ := bind_some hlc
        obtain ⟨⟨rest2, ρ6⟩, e6, hlc⟩ := bind_some hlc
        cases hlc
        refine iteT ⟨F4, ρ4, q, ρ5, po4.st, e5, fun v5 H5 F5 po5 rs5 => ?_⟩
        have y5 := y4.trans po5.s
        obtain ⟨s5, f5, k5, d5, fd5, n5⟩ := back y5 (po4.ek.trans po5.ek)
        have rep5 := res_f rs5
        have racc := rp2.mono f5.ex
        refine ⟨acc, d5, ?_, F5, wipeP ρ5 vs, acc ++ [v5], accp ++ [q], ?_, ?_, k5, wipe2 _, upd_same, fd5, n5, racc.snoc rep5, ?_, rest2, e6, ?_⟩
        · rw [← racc.length]; omega
        · exact s5.grow fd5 (nDlk k5 n5)
        · exact (fr2.trans f5).grow hD
        · rw [List.length_append]; simp; omega
        · rw [hout]; simp
  · have e : i = ps.length := by omega
    subst e
    rw [List.drop_length] at hlc
    cases hlc
    refine .inl ⟨wk2, ?_⟩
    have hn : out = accp := by rw [hout, List.append_nil]
    have notv : ∀ {j}, kd OL j ≠ .fr → j ∉ vs := fun {j} hk z => hk (vsFr_at hvL z)
    have hlen : ρf.length = ρ1.length := by rw [ek2.1, wipeP_length]
    have hr : ∀ j, j ∉ vs → (restP ρ1 ρf vs)[j]? = ρf[j]? := fun j nj => by rw [restP_get hlen, if_neg nj]
    have hs : ∀ j, j ∉ vs → (wipe σ vs)[j]? = σ[j]? := fun j nj => by rw [wipe_getV, if_neg nj]
    have oa : ∀ a, OA OL (restP ρ1 ρf vs) σ a ↔ OA OL ρf (wipe σ vs) a := fun a => by
      constructor
      · rintro ⟨j, h1, ⟨q, h2, mq⟩, h3⟩
        have nj := notv (j := j) (fun z => by rw [z] at h1; cases h1)
        exact ⟨j, h1, ⟨q, by rw [← hr j nj]; exact h2, mq⟩, by rw [hs j nj]; exact h3⟩
      · rintro ⟨j, h1, ⟨q, h2, mq⟩, h3⟩
        have nj := notv (j := j) (fun z => by rw [z] at h1; cases h1)
        exact ⟨j, h1, ⟨q, by rw [hr j nj]; exact h2, mq⟩, by rw [← hs j nj]; exact h3⟩
    have fr3 := fr2.iff (fun a => OA.wipe hvL) fun a => (oa a).symm
    have stL := po.st.lock r
    have st3 : StOk OL (restP ρ1 ρf vs) σ H2 F2 := by
      refine ⟨st2.sub, by rw [restP_length, hlen]; exact po.st.len, fun j q hq => ?_, fun i j a q ne ho hk hp hs' => ?_⟩
      · by_cases mj : j ∈ vs
        · rw [restP_get hlen, if_pos mj] at hq
          obtain ⟨v, hv', sl⟩ := stL.slot j q hq
          refine ⟨v, hv', ?_⟩
          have hk : kd OL j = .fr := vsFr_at hvL mj
          have hk' : kd (lockO r O) j = .fr := hk
          rw [hk'] at sl
          rw [hk]
          exact Rep.mono fr2.ex sl
        · rw [hr j mj] at hq
          obtain ⟨v, hv', sl⟩ := st2.slot j q hq
          exact ⟨v, by rw [← hs j mj]; exact hv', sl⟩
      · have ni := notv (j := i) (fun z => by have := ho.1; rw [z] at this; cases this)
        have nj := notv (j := j) hk
        rw [hr j nj] at hp
        obtain ⟨h1, ⟨q2, h2, mq⟩, h3⟩ := ho
        rw [hr i ni] at h2
        exact st2.dis i j a q ne ⟨h1, ⟨q2, h2, mq⟩, by rw [hs i ni]; exact h3⟩ hk hp (by rw [hs j nj]; exact hs')
    have ek3 : EK OL ρ1 (restP ρ1 ρf vs) := by
      refine ⟨by rw [restP_length, hlen], fun j hj => ?_⟩
      by_cases mj : j ∈ vs
      · rw [restP_get hlen, if_pos mj]
      · rw [hr j mj, ek2.2 j hj, wipeP_get, if_neg mj]
    have pe : PoE OL ρ1 σ H1 F1 (restP ρ1 ρf vs) H2 F2 := ⟨st3, fr3, ek3⟩
    have pe2 := po.trans (pe.unlock po.st)
    refine k (.ref D) H2 F2 pe2 (.inr ⟨rfl, rfl, D, _, rfl, hD2, fD2, ?_, po.fr.back hD, fun z => ?_⟩)
    · rw [hn]
      exact .lst rp2 (Nat.le_trans hl2 hz)
    · -- D is nobody's: neither behind the lock
      obtain ⟨j, h1, ⟨q, h2, mq⟩, h3⟩ := z
      have hkf : kd OL j ≠ .fr := fun z => by
        rcases lockO_kd r O j with e | ⟨_, e, _⟩
        · have z' : kd (lockO r O) j = .fr := z
          rw [← e, z'] at h1; cases h1
        · have z' : kd (lockO r O) j = .fr := z
          rw [z'] at e; cases e
      have nj := notv hkf
      rw [hr j nj] at h2
      exact nDlk ek2 nA2 j D q hkf h2 (by rw [hs j nj]; exact h3) mq rfl
end
end Pv

/-! Pv8: comprehensions' rules; calls of built-ins; methods that change; stores at subscripts; augmented stores. -/
noncomputable section
namespace Pv
open PySem PySem.Spec PyProof.Rows L2

section
variable {X : Cx} {O O1 O' Ob : List Kd} {m : Bool} {r ra rb : Option Nat} {tg a b : Expr} {fa fb : EF} {pos : Pos}
abbrev RTs (X : Cx) (O : List Kd) (ifs : List Expr) (f : TF) : Prop := PTs X ifs (tT O f)
theorem rts_nil : RTs X O [] tYesF := ⟨fun pins s σ H Q I ⟨F, ρ, p, ρ', st, hf, k⟩ => by
  cases hf
  exact pts_nil.run pins s σ H Q I (k H F (PoE.refl st))⟩
theorem rts_one {c : Expr} {f : TF} (h : RT X O c f) : RTs X O [c] f := pts_one h
theorem re_lc {elt iter : Expr} {ifs : List Expr} {scope : Scope} {own : List (Str × Nat)} {fi : LF} {gf : GF} {tt : TF} {te : EF} (hN : X.N.Nodup) (hi : RI X O r tg iter fi) (ok : BlkOk X.N X.env.scope scope own) (hv : vsFr O (own.map (·.2)) = true)
    (hg : ∀ (s : Shared) (H : Hp) (C : Addr) (cl : List (Str × Addr)) (fp : List Addr), RG (X.blk s H scope (compEnvC scope cl C X.env) fp) (lockO r O) (own.map (·.2)) tg gf) (ht : ∀ (s : Shared) (H : Hp) (C : Addr) (cl : List (Str × Addr)) (fp : List Addr), RTs (X.blk s H scope (compEnvC scope cl C X.env) fp) (lockO r O) ifs tt)
    (he : ∀ (s : Shared) (H : Hp) (C : Addr) (cl : List (Str × Addr)) (fp : List Addr), RE (X.blk s H scope (compEnvC scope cl C X.env) fp) (lockO r O) false elt te) (hc : X.calm = true := by rfl) (hs : ∀ x, foldedSetIterable iter X.env x = pure x := by intro _; rfl) :
    RE X O true (.ListComp elt [⟨tg, iter, ifs, 0⟩] scope pos) (eLc fi gf tt te (own.map (·.2))) :=
  pe_imp (pe_lc hc hN hi ok hg ht he hs) (imp_lc hv)
/-- y = [..] on one line -/
theorem rs_setLc (i : Nat) {y : Str} {py spos : Pos} {elt iter : Expr} {ifs : List Expr} {scope : Scope} {own : List (Str × Nat)} {fi : LF} {gf : GF} {tt : TF} {te : EF} (hN : X.N.Nodup) (hi : RI X O r tg iter fi) (ok : BlkOk X.N X.env.scope scope own) (hv : vsFr O (own.map (·.2)) = true)
    (hg : ∀ (s : Shared) (H : Hp) (C : Addr) (cl : List (Str × Addr)) (fp : List Addr), RG (X.blk s H scope (compEnvC scope cl C X.env) fp) (lockO r O) (own.map (·.2)) tg gf) (ht : ∀ (s : Shared) (H : Hp) (C : Addr) (cl : List (Str × Addr)) (fp : List Addr), RTs (X.blk s H scope (compEnvC scope cl C X.env) fp) (lockO r O) ifs tt)
    (he : ∀ (s : Shared) (H : Hp) (C : Addr) (cl : List (Str × Addr)) (fp : List Addr), RE (X.blk s H scope (compEnvC scope cl C X.env) fp) (lockO r O) false elt te)
    (hsw : swapsWith (.ListComp elt [⟨tg, iter, ifs, 0⟩] scope pos) (some (.Name y py)) spos.line X.env = pure true) (hc : X.calm = true := by rfl) (hy : X.N[i]? = some y := by rfl) (hyl : X.env.scope.names.lookup y = some .local := by rfl) (hl : i < O.length := by decide) (hf : freeK (kd O i) = true := by rfl)
    (hs : ∀ x, foldedSetIterable iter X.env x = pure x := by intro _; rfl) :
    RS X O (O.set i .ow) Ob m (.Assign [.Name y py] (.ListComp elt [⟨tg, iter, ifs, 0⟩] scope pos) spos) (sAsg i (eLc fi gf tt te (own.map (·.2)))) :=
  ps_imp (ps_setLc hc hN hy hyl hsw hi ok hg ht he hs) fun D σ H h => asg_mono (imp_lc hv) (imp_asgM hl hf D σ H h)

/-! ### calls of built-ins -/
def c1 (m : Bool) (g : PV → Option PV) : List V → Hp → VK → Prop := fun vs H Q => ∃ x, vs = [x] ∧ r1 m g x H Q
def c2 (m : Bool) (g : PV → PV → Option PV) : List V → Hp → VK → Prop := fun vs H Q => ∃ x y, vs = [x, y] ∧ r2 m g x y H Q
theorem imp_c1 {g : PV → Option PV} : ∀ σ H Q, tE O m (e1 g fa) σ H Q → tCB (c1 m g) (tCons (tR O ra fa) tNil) σ H Q := fun σ H Q ⟨F, ρ, p, ρ', st, hf, k⟩ => by
  obtain ⟨⟨x, ρ1⟩, h1, hf⟩ := bind_some hf
  obtain ⟨z, h3, hf⟩ := bind_some hf
  cases hf
  refine ⟨F, ρ, x, ρ1, st, h1, fun v1 H1 F1 po rd1 => ⟨v1, rfl, F1, x, p, po.st.sub, h3, rd1.val, fun v H' pr => ?_⟩⟩
  obtain ⟨F', po3, rs⟩ := pr.fin po.st
  exact k v H' F' (po.trans po3) (rs.trans po)
theorem imp_c2 {g : PV → PV → Option PV} : ∀ σ H Q, tE O m (e2 g fa fb) σ H Q → tCB (c2 m g) (tCons (tR O ra fa) (tCons (tR (lockO ra O) rb fb) tNil)) σ H Q := fun σ H Q h => by
  obtain ⟨F, ρ, p, ρ', st, hf, k⟩ := imp_op2 (ra := ra) (rb := rb) σ H Q h
  exact ⟨F, ρ, p, ρ', st, hf, fun v1 H1 F1 po1 rd1 => by
    obtain ⟨F2, ρ2, y, ρ3, st2, hf2, k2⟩ := k v1 H1 F1 po1 rd1
    exact ⟨F2, ρ2, y, ρ3, st2, hf2, fun v2 H2 F3 po2 rd2 => ⟨v1, v2, rfl, k2 v2 H2 F3 po2 rd2⟩⟩⟩
theorem re_cb1 {x : Str} {id : String} {p : Pos} {g : PV → Option PV} (hc : CallR X (.builtin id) (c1 m g)) (hm : X.mg x = none) (hv : bootBuiltins x = some (.builtin id)) (ha : RR X O ra a fa) (hg : Gl X x := by rfl) (hn : x ≠ "__name__" := by decide) (hdb : (x == ("__debug__" : Str)) = false := by decide)
    (hs : starEach [a] X.env = (false, eval a X.env) :: starEach [] X.env := by rfl) (hpl : (backTo pos (starEach [] X.env)).any (·.1) = false := by rfl) : RE X O m (.Call (.Name x p) [a] [] pos) (e1 g fa) :=
  pe_imp (pe_callB hc hg hm hv (pa_cons ha pa_nil hs) hn hdb hs hpl) imp_c1
theorem re_ct1 {x : Str} {T : String} {p : Pos} {g : PV → Option PV} (hc : CallR X (.type T) (c1 m g)) (hm : X.mg x = none) (hv : bootBuiltins x = some (.type T)) (ha : RR X O ra a fa) (hg : Gl X x := by rfl) (hn : x ≠ "__name__" := by decide) (hdb : (x == ("__debug__" : Str)) = false := by decide)
    (hs : starEach [a] X.env = (false, eval a X.env) :: starEach [] X.env := by rfl) (hpl : (backTo pos (starEach [] X.env)).any (·.1) = false := by rfl) : RE X O m (.Call (.Name x p) [a] [] pos) (e1 g fa) :=
  pe_imp (pe_callTy hc hg hm hv (pa_cons ha pa_nil hs) hn hdb hs hpl) imp_c1
theorem re_cb2 {x : Str} {id : String} {p : Pos} {g : PV → PV → Option PV} (hc : CallR X (.builtin id) (c2 m g)) (hm : X.mg x = none) (hv : bootBuiltins x = some (.builtin id)) (ha : RR X O ra a fa) (hb : RR X (lockO ra O) rb b fb) (hg : Gl X x := by rfl) (hn : x ≠ "__name__" := by decide) (hdb : (x == ("__debug__" : Str)) = false := by decide)
    (hs : starEach [a, b] X.env = (false, eval a X.env) :: starEach [b] X.env := by rfl) (hs2 : starEach [b] X.env = (false, eval b X.env) :: starEach [] X.env := by rfl) (hpl : (backTo pos (starEach [b] X.env)).any (·.1) = false := by rfl) : RE X O m (.Call (.Name x p) [a, b] [] pos) (e2 g fa fb) :=
  pe_imp (pe_callB hc hg hm hv (pa_cons ha (pa_cons hb pa_nil hs2) hs) hn hdb hs hpl) imp_c2
theorem CallR.byp1 {f : Value} {g : PV → Option PV} (h : ∀ p z, g p = some z → ∃ r, CallR X f r ∧ ∀ x H F Q, Sub F H → RdV p x H F → (∀ v H', PRes m z v H F H' → Q v H') → r [x] H Q) : CallR X f (c1 m g) := by
  intro pins s σ H xs us Q I rx ⟨x, e, F, p, z, sub, hg, hp, k⟩
  subst e
  obtain ⟨r, hr, hq⟩ := h p z hg
  exact hr pins s σ H _ us Q I rx (hq x H F Q sub hp k)
theorem CallR.byp2 {f : Value} {g : PV → PV → Option PV} (h : ∀ p q z, g p q = some z → ∃ r, CallR X f r ∧ ∀ x y H F Q, Sub F H → RdV p x H F → RdV q y H F → (∀ v H', PRes m z v H F H' → Q v H') → r [x, y] H Q) : CallR X f (c2 m g) := by
  intro pins s σ H xs us Q I rx ⟨x, y, e, F, p, q, z, sub, hg, hp, hq, k⟩
  subst e
  obtain ⟨r, hr, hk⟩ := h p q z hg
  exact hr pins s σ H _ us Q I rx (hk x y H F Q sub hp hq k)

def pLen : PV → Option PV
  | .lst xs => some (.int xs.length)
  | .tup xs => some (.int xs.length)
  | .str x => if x.length ≤ LIM then some (.int x.length) else none
  | .dct kvs => some (.int kvs.length)
  | _ => none
theorem c_lenD : CallR X (.builtin "len") (fun xs H Q => ∃ a kvs, xs = [V.ref a] ∧ Rd H a (.dK kvs) ∧ Q (.int kvs.length) H) := by
  intro pins s σ H xs us Q I r h
  obtain ⟨a, kvs, rfl, ha, q⟩ := h
  obtain ⟨u, rfl, ru⟩ := vals1 r
  cases ru
  exact d_len I ha fun t s' I' => ⟨.int kvs.length, H, I', ⟨t, rfl⟩, q⟩
theorem c_len : CallR X (.builtin "len") (c1 m pLen) := CallR.byp1 fun p z e => by
  cases p <;> simp [pLen] at e
  · obtain ⟨hl, rfl⟩ := e
    exact ⟨_, call_len, fun x H F Q sub hp k => ⟨x, _, rfl, by rw [rdv_str hp]; exact ⟨lim_ok hl, rfl⟩, k _ H (.inl ⟨rfl, .int _, fun _ => rfl⟩)⟩⟩
  · subst e
    refine ⟨_, call_len, fun x H F Q sub hp k => ?_⟩
    obtain ⟨a, vs, rfl, _, ha, rs, _⟩ := rdv_tup sub hp
    exact ⟨_, _, rfl, .inr ⟨vs, .inl (.inl ha), rs.length⟩, k _ H (.inl ⟨rfl, .int _, fun _ => rfl⟩)⟩
  · subst e
    refine ⟨_, call_len, fun x H F Q sub hp k => ?_⟩
    obtain ⟨a, vs, rfl, ha, rs, _⟩ := rdv_lst sub hp
    exact ⟨_, _, rfl, .inl ⟨vs, .inl ha, rs.length⟩, k _ H (.inl ⟨rfl, .int _, fun _ => rfl⟩)⟩
  · subst e
    refine ⟨_, c_lenD, fun x H F Q sub hp k => ?_⟩
    obtain ⟨a, vs, rfl, ha, rs, _⟩ := rdv_dct sub hp
    exact ⟨_, _, rfl, ha, by rw [← rs.length]; exact k _ H (.inl ⟨rfl, .int _, fun _ => rfl⟩)⟩
def intsP : List PV → Option (List Int)
  | [] => some []
  | .int i :: ps => (intsP ps).map (i :: ·)
  | _ => none
theorem ints_reps {F : Hp} : ∀ {ps : List PV} {ns : List Int} {vs : List V}, intsP ps = some ns → Reps F ps vs → vs = ns.map V.int
  | [], _, _, h, r => by cases h; cases r; rfl
  | p :: ps, ns, _, h, r => by
    cases p <;> simp [intsP] at h
    obtain ⟨ns', h, rfl⟩ := h
    cases r with
    | cons r1 r2 => rw [rep_int r1, ints_reps h r2]; rfl
def pSum : PV → Option PV
  | .lst xs => (intsP xs).map fun ns => PV.int ns.sum
  | _ => none
theorem c_sum (hc : X.calm = true) : CallR X (.builtin "sum") (c1 m pSum) := CallR.byp1 fun p z e => by
  cases p <;> simp [pSum] at e
  obtain ⟨ns, h, rfl⟩ := e
  refine ⟨_, cr_sum hc, fun x H F Q sub hp k => ?_⟩
  obtain ⟨a, vs, rfl, ha, rs, _⟩ := rdv_lst sub hp
  rw [ints_reps h rs] at ha
  exact ⟨a, ns, rfl, .inl ha, k _ H (.inl ⟨rfl, .int _, fun _ => rfl⟩)⟩
def bls : List PV → Option (List Bool)
  | [] => some []
  | .bl i :: ps => (bls ps).map (i :: ·)
  | _ => none
theorem bls_reps {F : Hp} : ∀ {ps : List PV} {ns : List Bool} {vs : List V}, bls ps = some ns → Reps F ps vs → vs = ns.map V.bl
  | [], _, _, h, r => by cases h; cases r; rfl
  | p :: ps, ns, _, h, r => by
    cases p <;> simp [bls] at h
    obtain ⟨ns', h, rfl⟩ := h
    cases r with
    | cons r1 r2 => rw [rep_bl r1, bls_reps h r2]; rfl
def pAny : PV → Option PV
  | .lst xs => (bls xs).map fun ns => PV.bl (ns.any id)
  | _ => none
def pAll : PV → Option PV
  | .lst xs => (bls xs).map fun ns => PV.bl (ns.all id)
  | _ => none
theorem c_any (hc : X.calm = true) : CallR X (.builtin "any") (c1 m pAny) := CallR.byp1 fun p z e => by
  cases p <;> simp [pAny] at e
  obtain ⟨ns, h, rfl⟩ := e
  refine ⟨_, cr_any hc, fun x H F Q sub hp k => ?_⟩
  obtain ⟨a, vs, rfl, ha, rs, _⟩ := rdv_lst sub hp
  rw [bls_reps h rs] at ha
  exact ⟨a, ns, rfl, .inl ha, k _ H (.inl ⟨rfl, .bl _, fun _ => rfl⟩)⟩
theorem c_all (hc : X.calm = true) : CallR X (.builtin "all") (c1 m pAll) := CallR.byp1 fun p z e => by
  cases p <;> simp [pAll] at e
  obtain ⟨ns, h, rfl⟩ := e
  refine ⟨_, cr_all hc, fun x H F Q sub hp k => ?_⟩
  obtain ⟨a, vs, rfl, ha, rs, _⟩ := rdv_lst sub hp
  rw [bls_reps h rs] at ha
  exact ⟨a, ns, rfl, .inl ha, k _ H (.inl ⟨rfl, .bl _, fun _ => rfl⟩)⟩
def pAbs : PV → Option PV
  | .int i => some (.int (if i < 0 then -i else i))
  | _ => none
theorem c_abs : CallR X (.builtin "abs") (c1 m pAbs) := CallR.byp1 fun p z e => by
  cases p <;> simp [pAbs] at e
  subst e
  exact ⟨_, call_abs, fun x H F Q sub hp k => ⟨_, by rw [rdv_int hp], k _ H (.inl ⟨rfl, .int _, fun _ => rfl⟩)⟩⟩
def pInt : PV → Option PV
  | .int i => some (.int i)
  | .bl b => some (.int (if b then 1 else 0))
  | _ => none
theorem c_int : CallR X (.type "int") (c1 m pInt) := CallR.byp1 fun p z e => by
  cases p <;> simp [pInt] at e
  · subst e
    exact ⟨_, call_int1, fun x H F Q sub hp k => .inr ⟨_, by rw [rdv_bl hp], k _ H (.inl ⟨rfl, .int _, fun _ => rfl⟩)⟩⟩
  · subst e
    exact ⟨_, call_int1, fun x H F Q sub hp k => .inl ⟨_, by rw [rdv_int hp], k _ H (.inl ⟨rfl, .int _, fun _ => rfl⟩)⟩⟩
def pMax2 : PV → PV → Option PV
  | .int i, .int j => some (.int (if j > i then j else i))
  | _, _ => none
def pMin2 : PV → PV → Option PV
  | .int i, .int j => some (.int (if j < i then j else i))
  | _, _ => none
theorem c_max2 (hc : X.calm = true) : CallR X (.builtin "max") (c2 m pMax2) := CallR.byp2 fun p q z e => by
  cases p <;> cases q <;> simp [pMax2] at e
  subst e
  exact ⟨_, call_max2 hc, fun x y H F Q sub hp hq k => ⟨_, _, by rw [rdv_int hp, rdv_int hq], k _ H (.inl ⟨rfl, .int _, fun _ => rfl⟩)⟩⟩
theorem c_min2 (hc : X.calm = true) : CallR X (.builtin "min") (c2 m pMin2) := CallR.byp2 fun p q z e => by
  cases p <;> cases q <;> simp [pMin2] at e
  subst e
  exact ⟨_, call_min2 hc, fun x y H F Q sub hp hq k => ⟨_, _, by rw [rdv_int hp, rdv_int hq], k _ H (.inl ⟨rfl, .int _, fun _ => rfl⟩)⟩⟩
def pTuple : PV → Option PV
  | .lst xs => some (.tup xs)
  | .tup xs => some (.tup xs)
  | _ => none
theorem c_tuple : CallR X (.type "tuple") (c1 m pTuple) := CallR.byp1 fun p z e => by
  cases p <;> simp [pTuple] at e
  · subst e
    refine ⟨_, call_tuple_of, fun x H F Q sub hp k => ?_⟩
    obtain ⟨a, vs, rfl, fa, ha, rs, l⟩ := rdv_tup sub hp
    exact ⟨a, vs, rfl, .inr ⟨.inl (.inl ha), k _ H (.inl ⟨rfl, .ref fa (.tup rs l), fun _ => rfl⟩)⟩⟩
  · subst e
    refine ⟨_, call_tuple_of, fun x H F Q sub hp k => ?_⟩
    obtain ⟨a, vs, rfl, ha, rs, l⟩ := rdv_lst sub hp
    exact ⟨a, vs, rfl, .inl ⟨.inl ha, fun q hq => k _ _ (.inr ⟨q, _, rfl, hq, rfl, .tup rs l⟩)⟩⟩
def kP : Key → PV
  | .inl i => .int i
  | .inr x => .str x
def pList : PV → Option PV
  | .lst xs => some (.lst xs)
  | .tup xs => some (.lst xs)
  | .dct kvs => some (.lst (kvs.map fun kv => kP kv.1))
  | _ => none
theorem kP_rep (F : Hp) (k : Key) : Rep F (kP k) (kV k) := by
  cases k with
  | inl i => exact .int i
  | inr x => exact .str x
theorem RepK.keys {F : Hp} : ∀ {kvs : List (Key × PV)} {vs : List (Key × V)}, RepK F kvs vs → Reps F (kvs.map fun kv => kP kv.1) (vs.map fun kv => kV kv.1)
  | _, _, .nil => .nil
  | _, _, .cons _ t => .cons (kP_rep F _) (RepK.keys t)
/-- a new list of a dict's keys; the dict may be locked -/
theorem c_listD (hc : X.calm = true) : CallR X (.type "list") (fun xs H Q => ∃ p kvs, xs = [V.ref p] ∧ Rd H p (.dK kvs) ∧ ∀ q, H q = none → Q (.ref q) (upd H q (.lst (kvs.map fun kv => kV kv.1)))) := by
  intro pins s σ H xs us Q I r h
  obtain ⟨p, kvs, e, hk, q⟩ := h
  subst e
  obtain ⟨u, eu, rx⟩ := vals1 r
  subst eu
  obtain rfl : u = Value.ref p := rx
  obtain ⟨z, lo, vs, rk, hd⟩ := (show ObjOk X.prog X.w H s.heap p (.dK kvs) from hk.ok I.hok)
  obtain ⟨ep, hat⟩ := hd.dictAt
  have hl : kvs.length = vs.length := Paired.length rk
  refine PySem.W.kdl_call (PySem.W.kdl_dict (knd := mixKind X.prog X.w) (kvs := vs) (ep := ep) lo) (I.ok.hd hc) hat (by rw [← hl]; exact z) fun h' tk acc' c' hkeep hS hacc => ?_
  refine ⟨.ref s.heap.objs.size, upd H s.heap.objs.size (.lst (kvs.map fun kv => kV kv.1)), I.laid hkeep (Nat.le_refl _) (show ObjOk X.prog X.w _ _ _ (.lst (kvs.map fun kv => kV kv.1)) from ⟨?_, acc'.toList, c', ?_, ?_⟩), rfl, q _ (I.hok.fresh (Nat.le_refl _))⟩
  · rw [List.length_map]; exact z
  · have el : acc'.toList.length = acc'.size := by simp
    refine vals_of_at (by rw [List.length_map, el, hacc.1, hl]) fun j x w h1 h2 => ?_
    obtain ⟨k, y, hky, hi⟩ := hacc.2 j w (by rw [← Array.getElem?_toList]; exact h2)
    have e1 : (kvs.map (·.1))[j]? = some k := by
      rw [KV.keys rk, List.getElem?_map, hky] <;> rfl
    have e2 : (kvs.map fun kv => kV kv.1)[j]? = some (kV k) := by
      have e3 : (kvs.map fun kv => kV kv.1) = (kvs.map (·.1)).map kV := by rw [List.map_map] <;> rfl
      rw [e3, List.getElem?_map, e1] <;> rfl
    rw [e2] at h1
    cases h1
    exact keyIs_rel hi
  · rw [Array.toArray_toList]; exact hS
theorem c_list (hc : X.calm = true) : CallR X (.type "list") (c1 m pList) := CallR.byp1 fun p z e => by
  cases p <;> simp [pList] at e
  · subst e
    refine ⟨_, call_list_of, fun x H F Q sub hp k => ?_⟩
    obtain ⟨a, vs, rfl, fa, ha, rs, l⟩ := rdv_tup sub hp
    exact ⟨a, vs, rfl, .inr (.inl (.inl ha)), fun q hq => k _ _ (.inr ⟨q, _, rfl, hq, rfl, .lst rs l⟩)⟩
  · subst e
    refine ⟨_, call_list_of, fun x H F Q sub hp k => ?_⟩
    obtain ⟨a, vs, rfl, ha, rs, l⟩ := rdv_lst sub hp
    exact ⟨a, vs, rfl, .inl (.inl ha), fun q hq => k _ _ (.inr ⟨q, _, rfl, hq, rfl, .lst rs l⟩)⟩
  · subst e
    refine ⟨_, c_listD hc, fun x H F Q sub hp k => ?_⟩
    obtain ⟨a, vs, rfl, ha, rs, l⟩ := rdv_dct sub hp
    exact ⟨a, vs, rfl, ha, fun q hq => k _ _ (.inr ⟨q, _, rfl, hq, rfl, .lst rs.keys (by rw [List.length_map]; exact l)⟩)⟩

/-! list(range(..)) -/
def pRg1 : PV → Option PV
  | .int j => if rgB 0 j then some (.lst (rgP 0 j.toNat)) else none
  | _ => none
theorem rgV_reps (F : Hp) (a b : Int) : Reps F (rgP a (b - a).toNat) (rgV a b) := by
  unfold rgP rgV
  induction List.range (b - a).toNat with
  | nil => exact .nil
  | cons x xs ih => exact .cons (.int _) ih
theorem rgOk_of {i j : Int} (h : rgB i j = true) : RgOk i j := by
  have := rgB_to h
  refine ⟨?_, ?_, ?_, ?_, ?_⟩ <;> omega
theorem re_listRg1 {p p2 pos2 : Pos} (hm : X.mg "list" = none) (hm2 : X.mg "range" = none) (ha : RE X O m' a fa) (hg : Gl X "list" := by rfl) (hg2 : Gl X "range" := by rfl) (hc : X.calm = true := by rfl)
    (na : starEach [.Call (.Name "range" p2) [a] [] pos2] X.env = (false, eval (.Call (.Name "range" p2) [a] [] pos2) X.env) :: starEach [] X.env := by rfl) (na2 : starEach [a] X.env = (false, eval a X.env) :: starEach [] X.env := by rfl) :
    RE X O true (.Call (.Name "list" p) [.Call (.Name "range" p2) [a] [] pos2] [] pos) (e1 pRg1 fa) :=
  pe_imp (pe_listRg hc hg hm (prg_1 hg2 hm2 ha na2) na) fun σ H Q ⟨F, ρ, p, ρ', st, hf, k⟩ => by
    obtain ⟨⟨x, ρ1⟩, h1, hf⟩ := bind_some hf
    obtain ⟨z, h3, hf⟩ := bind_some hf
    cases hf
    cases x with
    | int j =>
      simp [pRg1] at h3
      obtain ⟨hb, rfl⟩ := h3
      refine ⟨F, ρ, _, ρ1, st, h1, fun v1 H1 F1 po rs => ⟨_, res_int rs, rgOk_of hb, fun q hq => ?_⟩⟩
      have pr : PRes true (.lst (rgP 0 j.toNat)) (.ref q) H1 F1 (upd H1 q (.lst (rgV 0 j))) := .inr ⟨q, _, rfl, hq, rfl, .lst (by have := rgV_reps F1 0 j; rwa [Int.sub_zero] at this) (by have := (rgB_ok hb).2; rw [rgP_len]; simpa using this)⟩
      obtain ⟨F', po3, rs⟩ := pr.fin po.st
      exact k _ _ F' (po.trans po3) (rs.trans po)
    | _ => simp [pRg1] at h3

/-! isinstance -/
def tyN : PV → String
  | .non => "NoneType"
  | .bl _ => "bool"
  | .int _ => "int"
  | .str _ => "str"
  | .tup _ => "tuple"
  | .lst _ => "list"
  | .dct _ => "dict"
  | .dtt _ => "dict"
def isT : PV → Bool
  | .dtt _ => true
  | _ => false
def pIsI (T : String) (p : PV) : Option PV := if isT p then none else (kitB (tyN p) T).map PV.bl
theorem tyX_of {K : PySem.W.Frag} {p : PV} {v : V} {H F : Hp} (s : Sub F H) (r : RdV p v H F) (ht : isT p = false) : TyX K H v (.type (tyN p)) := by
  cases p with
  | non => rw [rdv_non r]; exact .base .non
  | bl b => rw [rdv_bl r]; exact .base (.bl b)
  | int i => rw [rdv_int r]; exact .base (.int i)
  | str x => rw [rdv_str r]; exact .base (.str x)
  | tup xs => obtain ⟨a, vs, rfl, _, h, _⟩ := rdv_tup s r; exact .base (.tup h)
  | lst xs =>
    obtain ⟨a, vs, rfl, h, _⟩ := rdv_lst s r
    rcases h with h | ⟨o, h⟩
    · exact .base (.lst h)
    · exact .base (.frz h)
  | dct xs =>
    obtain ⟨a, vs, rfl, h, _⟩ := rdv_dct s r
    rcases h with h | ⟨o, h⟩
    · exact .base (.dK h)
    · exact .fDict h
  | dtt xs => cases ht
theorem re_isi {T : String} {x : Str} {p p2 : Pos} (hm : X.mg "isinstance" = none) (hmT : X.mg x = none) (hv : bootBuiltins x = some (.type T)) (ha : RR X O ra a fa) (hg : Gl X "isinstance" := by rfl) (hgT : Gl X x := by rfl) (hn : x ≠ "__name__" := by decide) (hdb : (x == ("__debug__" : Str)) = false := by decide)
    (hs : starEach [a, .Name x p2] X.env = (false, eval a X.env) :: starEach [.Name x p2] X.env := by rfl) (hs2 : starEach [.Name x p2] X.env = (false, eval (.Name x p2) X.env) :: starEach [] X.env := by rfl) (hpl : (backTo pos (starEach [.Name x p2] X.env)).any (·.1) = false := by rfl) :
    RE X O m (.Call (.Name "isinstance" p) [a, .Name x p2] [] pos) (e1 (pIsI T) fa) :=
  pe_imp (pe_callB call_isi hg hm (by decide +kernel) (pa_cons ha (pa_cons (pe_bltn (v := .ty T) hgT hmT hv rfl hn hdb) pa_nil hs2) hs) (by decide) (by decide) hs hpl) fun σ H Q ⟨F, ρ, p, ρ', st, hf, k⟩ => by
    obtain ⟨⟨x, ρ1⟩, h1, hf⟩ := bind_some hf
    obtain ⟨z, h3, hf⟩ := bind_some hf
    cases hf
    have ht : isT x = false := by
      cases q : isT x with
      | false => rfl
      | true =>
        have h4 : (if isT x = true then none else (kitB (tyN x) T).map PV.bl) = some p := h3
        rw [q] at h4; cases h4
    have h4 : (if isT x = true then none else (kitB (tyN x) T).map PV.bl) = some p := h3
    rw [ht] at h4
    obtain ⟨b, hb, rfl⟩ := Option.map_eq_some_iff.mp h4
    exact ⟨F, ρ, x, ρ1, st, h1, fun v1 H1 F1 po rd => ⟨v1, .ty T, _, _, b, rfl, .ty T, tyX_of po.st.sub rd.val ht, kit_ty hb, k _ H1 F1 po (.inl ⟨.bl b, fun _ => rfl⟩)⟩⟩
end
end Pv

/-! Pv9: what changes an owned list or dict; augmented stores; two names at once; dicts made. -/
noncomputable section
namespace Pv
open PySem PySem.Spec PyProof.Rows L2

def getL (ρ : Env) (i : Nat) : Option (List PV) := match ρ[i]? with | some (some (.lst xs)) => some xs | _ => none
theorem getL_some {ρ : Env} {i : Nat} {xs : List PV} (h : getL ρ i = some xs) : ρ[i]? = some (some (.lst xs)) := by
  unfold getL at h
  split at h
  · cases h; assumption
  · cases h
def getM (ρ : Env) (i : Nat) : Option PV := match ρ[i]? with | some (some p) => if isM p then some p else none | _ => none
theorem getM_some {ρ : Env} {i : Nat} {p : PV} (h : getM ρ i = some p) : ρ[i]? = some (some p) ∧ isM p = true := by
  unfold getM at h
  split at h
  · obtain ⟨m, e⟩ := ite_some h; subst e; exact ⟨by assumption, m⟩
  · cases h
def eMutL (i : Nat) (fa : LF) (g : List PV → List PV → Option (PV × List PV)) : EF := fun ρ => (getL ρ i).bind fun _ => (fa ρ).bind fun x => (getL x.2 i).bind fun ps => (g ps x.1).bind fun r => some (r.1, x.2.set i (some (.lst r.2)))
section
variable {O : List Kd} {ρ ρ' : Env} {σ : L2.St} {H F H' F' : Hp} {i : Nat} {v : V} {p q : PV}
/-- an owned slot's thing -/
theorem StOk.ownAt (s : StOk O ρ σ H F) (hk : (kd O i).own = true) (hp : ρ[i]? = some (some p)) (m : isM p = true) : ∃ a o, σ[i]? = some (some (.ref a)) ∧ H a = some o ∧ Cnt F p o ∧ OwnA O ρ σ i a := by
  obtain ⟨v, hv, sl⟩ := s.slot i p hp
  rcases sl.own hk with ⟨z, _⟩ | ⟨_, a, o, rfl, h, _, c⟩
  · rw [m] at z; cases z
  · exact ⟨a, o, hv, h, c, hk, ⟨p, hp, m⟩, hv⟩
end
section
variable {X : Cx} {O O1 O' Ob : List Kd} {m : Bool} {r ra rb : Option Nat} {tg a b : Expr} {fa fb : EF} {fl : LF} {pos : Pos} {i : Nat}
theorem imp_mutL {g : List PV → List PV → Option (PV × List PV)} {rr : V → List V → Hp → VK → Prop} {ta : TA} (hk : (kd O i).own = true) (hta : ∀ σ H Q, tA O fl σ H Q → ta σ H Q)
    (hrr : ∀ l H F ps vs as avs r ps', H l = some (.lst vs) → Reps F ps vs → ps.length ≤ sizeLine → Reps F as avs → g ps as = some (r, ps') → ∃ v vs', Rep F r v ∧ Reps F ps' vs' ∧ ps'.length ≤ sizeLine ∧ ∀ Q : VK, Q v (upd H l (.lst vs')) → rr (.ref l) avs H Q) :
    ∀ σ H Q, tE O false (eMutL i fl g) σ H Q → ∃ v, σ[i]? = some (some v) ∧ tyV X.K "list" v H ∧ ta σ H fun xs H2 => rr v xs H2 Q := fun σ H Q ⟨F, ρ, p, ρ', s, hf, k⟩ => by
  obtain ⟨ps0, h0, hf⟩ := bind_some hf
  obtain ⟨⟨as, ρ1⟩, h1, hf⟩ := bind_some hf
  obtain ⟨ps, h2, hf⟩ := bind_some hf
  obtain ⟨⟨r, ps'⟩, h3, hf⟩ := bind_some hf
  cases hf
  obtain ⟨a, o, hs, ha, c, _⟩ := s.ownAt hk (getL_some h0) rfl
  refine ⟨_, hs, ?_, hta σ H _ ⟨F, ρ, as, ρ1, s, h1, fun avs H1 F1 po rs => ?_⟩⟩
  · cases c with
    | lst _ _ => exact .inl ⟨rfl, _, .inl (.inl ha)⟩
  · obtain ⟨a', o', hs', ha', c', oa⟩ := po.st.ownAt hk (getL_some h2) rfl
    rw [hs] at hs'
    cases hs'
    cases c' with
    | lst r2 z =>
      obtain ⟨v, vs', rv, r', z', hq⟩ := hrr a H1 F1 ps _ as avs r ps' ha' r2 z rs h3
      exact hq _ (k v _ F1 (po.trans (po.st.write oa (.lst r' z') rfl)) (.inl ⟨rv, fun z => nomatch z⟩))
/-- x.m(e, ..) of an owned list -/
theorem re_mutL (i : Nat) {g : List PV → List PV → Option (PV × List PV)} {rr : V → List V → Hp → VK → Prop} {x name : Str} {p apos cpos : Pos} {id : String} {e : Expr} {es : List Expr} (hm : MtM X id rr)
    (hrr : ∀ l H F ps vs as avs r ps', H l = some (.lst vs) → Reps F ps vs → ps.length ≤ sizeLine → Reps F as avs → g ps as = some (r, ps') → ∃ v vs', Rep F r v ∧ Reps F ps' vs' ∧ ps'.length ≤ sizeLine ∧ ∀ Q : VK, Q v (upd H l (.lst vs')) → rr (.ref l) avs H Q)
    (slot : Slot "list" name id) (hty : typeOf (.builtin id) = pure (.type "method_descriptor")) (ha : RA X O (e :: es) fl) (hk : (kd O i).own = true := by rfl) (hN : X.N[i]? = some x := by rfl)
    (hv : Vis X.env.scope x := by first | exact Or.inl rfl | exact Or.inr (Or.inl rfl) | exact Or.inr (Or.inr rfl)) (hd : (x == ("__debug__" : Str)) = false := by decide) (hcd : (x == ("__classdict__" : Str)) = false := by decide)
    (hbase : attributeBase (.Name x p) name X.env (eval (.Name x p) X.env) = eval (.Name x p) X.env := by rfl)
    (hfew : ((backTo cpos (starEach (e :: es) X.env)).all (fun x => !x.1) && (backToKw cpos (keywordEach [] X.env)).all (fun x => x.1.isSome)
      && decide ((e :: es).length + ([] : List Keyword).length + (if ([] : List Keyword).isEmpty then 0 else 1) < 30)) = true := by rfl)
    (hline : (apos.endLine == cpos.line) = true := by rfl) (hs : starEach (e :: es) X.env = (false, eval e X.env) :: starEach es X.env := by rfl) (hplain : (backTo cpos (starEach es X.env)).any (·.1) = false := by rfl) :
    RE X O false (.Call (.Attribute (.Name x p) name apos) (e :: es) [] cpos) (eMutL i fl g) :=
  pe_imp (pe_bm PySem.F.plainAttrs_list slot hty hm (pe_var hN hv hd hcd) ha hbase hfew hline hs hplain) fun σ H Q h => imp_mutL hk (fun _ _ _ z => z) hrr σ H Q h
/-- x.m() of an owned list -/
theorem re_mutL0 (i : Nat) {g : List PV → List PV → Option (PV × List PV)} {rr : V → List V → Hp → VK → Prop} {x name : Str} {p apos cpos : Pos} {id : String} (hm : MtM X id rr)
    (hrr : ∀ l H F ps vs as avs r ps', H l = some (.lst vs) → Reps F ps vs → ps.length ≤ sizeLine → Reps F as avs → g ps as = some (r, ps') → ∃ v vs', Rep F r v ∧ Reps F ps' vs' ∧ ps'.length ≤ sizeLine ∧ ∀ Q : VK, Q v (upd H l (.lst vs')) → rr (.ref l) avs H Q)
    (slot : Slot "list" name id) (hty : typeOf (.builtin id) = pure (.type "method_descriptor")) (hk : (kd O i).own = true := by rfl) (hN : X.N[i]? = some x := by rfl)
    (hv : Vis X.env.scope x := by first | exact Or.inl rfl | exact Or.inr (Or.inl rfl) | exact Or.inr (Or.inr rfl)) (hd : (x == ("__debug__" : Str)) = false := by decide) (hcd : (x == ("__classdict__" : Str)) = false := by decide)
    (hbase : attributeBase (.Name x p) name X.env (eval (.Name x p) X.env) = eval (.Name x p) X.env := by rfl) (hline : (apos.endLine == cpos.line) = true := by rfl) :
    RE X O false (.Call (.Attribute (.Name x p) name apos) [] [] cpos) (eMutL i eNil g) :=
  pe_imp (pe_bm0 PySem.F.plainAttrs_list slot hty hm (pe_var hN hv hd hcd) hbase hline) fun σ H Q h => by
    obtain ⟨v, h1, h2, h3⟩ := imp_mutL (X := X) (ta := tNil) hk (fun σ H Q ⟨F, ρ, p, ρ', st, hf, k⟩ => by
      cases hf
      exact k [] H F (PoE.refl st) .nil) hrr σ H Q h
    exact ⟨v, h1, h2, h3⟩
def gApp : List PV → List PV → Option (PV × List PV) := fun ps as => match as with
  | [y] => if ps.length < LIM then some (.non, ps ++ [y]) else none
  | _ => none
def gPop : List PV → List PV → Option (PV × List PV) := fun ps as => match as with
  | [] => ps[ps.length - 1]?.map fun y => (y, ps.dropLast)
  | _ => none
def gRev : List PV → List PV → Option (PV × List PV) := fun ps as => match as with
  | [] => some (.non, ps.reverse)
  | _ => none
def gPopAt : List PV → List PV → Option (PV × List PV) := fun ps as => match as with
  | [.int j] => if 0 ≤ j ∧ j < ps.length ∧ j < 1000000000 then ps[j.toNat]?.map fun y => (y, ps.eraseIdx j.toNat) else none
  | _ => none
theorem re_append (i : Nat) {x : Str} {p apos cpos : Pos} {e : Expr} {fe : EF} (ha : RE X O m e fe) (hk : (kd O i).own = true := by rfl) (hN : X.N[i]? = some x := by rfl)
    (hv : Vis X.env.scope x := by first | exact Or.inl rfl | exact Or.inr (Or.inl rfl) | exact Or.inr (Or.inr rfl)) (hd : (x == ("__debug__" : Str)) = false := by decide) (hcd : (x == ("__classdict__" : Str)) = false := by decide)
    (hbase : attributeBase (.Name x p) "append" X.env (eval (.Name x p) X.env) = eval (.Name x p) X.env := by rfl)
    (hfew : ((backTo cpos (starEach [e] X.env)).all (fun x => !x.1) && (backToKw cpos (keywordEach [] X.env)).all (fun x => x.1.isSome)
      && decide ([e].length + ([] : List Keyword).length + (if ([] : List Keyword).isEmpty then 0 else 1) < 30)) = true := by rfl)
    (hline : (apos.endLine == cpos.line) = true := by rfl) (hs : starEach [e] X.env = (false, eval e X.env) :: starEach [] X.env := by rfl) (hplain : (backTo cpos (starEach [] X.env)).any (·.1) = false := by rfl) :
    RE X O false (.Call (.Attribute (.Name x p) "append" apos) [e] [] cpos) (eMutL i (eCons fe eNil) gApp) :=
  re_mutL i mt_append (fun l H F ps vs as avs r ps' hl hr hz ha hg => by
    match as, hg with
    | [y], hg =>
      obtain ⟨hl2, e⟩ := ite_some (show (if ps.length < LIM then some (PV.non, ps ++ [y]) else none) = some (r, ps') from hg)
      cases e
      cases ha with
      | cons r1 r2 =>
        cases r2
        exact ⟨.non, _, .non, hr.snoc r1, by rw [List.length_append]; have := lim_lt hl2; simp; omega, fun Q q => ⟨l, _, _, rfl, rfl, hl, by rw [← hr.length]; exact lim_lt hl2, q⟩⟩)
    PySem.F.slot_list_append PySem.F.type_list_append (ra_cons (re_dn ha) ra_nil hs) hk hN hv hd hcd hbase hfew hline hs hplain
theorem re_pop (i : Nat) {x : Str} {p apos cpos : Pos} (hk : (kd O i).own = true := by rfl) (hN : X.N[i]? = some x := by rfl)
    (hv : Vis X.env.scope x := by first | exact Or.inl rfl | exact Or.inr (Or.inl rfl) | exact Or.inr (Or.inr rfl)) (hd : (x == ("__debug__" : Str)) = false := by decide) (hcd : (x == ("__classdict__" : Str)) = false := by decide)
    (hbase : attributeBase (.Name x p) "pop" X.env (eval (.Name x p) X.env) = eval (.Name x p) X.env := by rfl) (hline : (apos.endLine == cpos.line) = true := by rfl) :
    RE X O false (.Call (.Attribute (.Name x p) "pop" apos) [] [] cpos) (eMutL i eNil gPop) :=
  re_mutL0 i mt_pop (fun l H F ps vs as avs r ps' hl hr hz ha hg => by
    cases ha with
    | nil =>
      obtain ⟨y, hy, e⟩ := Option.map_eq_some_iff.mp (show ps[ps.length - 1]?.map (fun y => (y, ps.dropLast)) = some (r, ps') from hg)
      cases e
      obtain ⟨v, hv, rv⟩ := hr.get hy
      exact ⟨v, _, rv, hr.dropLast, by rw [List.length_dropLast]; omega, fun Q q => ⟨l, _, v, rfl, rfl, hl, by rw [← hr.length]; exact hv, q⟩⟩
    | cons _ _ => cases hg)
    PySem.F.slot_list_pop PySem.F.type_list_pop hk hN hv hd hcd hbase hline
theorem re_reverse (i : Nat) {x : Str} {p apos cpos : Pos} (hk : (kd O i).own = true := by rfl) (hN : X.N[i]? = some x := by rfl)
    (hv : Vis X.env.scope x := by first | exact Or.inl rfl | exact Or.inr (Or.inl rfl) | exact Or.inr (Or.inr rfl)) (hd : (x == ("__debug__" : Str)) = false := by decide) (hcd : (x == ("__classdict__" : Str)) = false := by decide)
    (hbase : attributeBase (.Name x p) "reverse" X.env (eval (.Name x p) X.env) = eval (.Name x p) X.env := by rfl) (hline : (apos.endLine == cpos.line) = true := by rfl) :
    RE X O false (.Call (.Attribute (.Name x p) "reverse" apos) [] [] cpos) (eMutL i eNil gRev) :=
  re_mutL0 i mt_reverse (fun l H F ps vs as avs r ps' hl hr hz ha hg => by
    cases ha with
    | nil =>
      cases hg
      exact ⟨.non, _, .non, hr.reverse, by rw [List.length_reverse]; exact hz, fun Q q => ⟨l, _, rfl, rfl, hl, q⟩⟩
    | cons _ _ => cases hg)
    PySem.F.slot_list_reverse PySem.F.type_list_reverse hk hN hv hd hcd hbase hline
theorem seqIndex_nat {j : Int} {n : Nat} (h0 : 0 ≤ j) (h : j < n) : seqIndex? j n = some j.toNat := by
  unfold seqIndex?
  simp only [if_neg (show ¬ j < 0 by omega)]
  rw [if_pos (by simp; exact ⟨h0, h⟩)]

/-! ### dicts -/
def putP {κ : Type} [DecidableEq κ] (kvs : List (κ × PV)) (k : κ) (v : PV) : List (κ × PV) :=
  if (kvs.any fun kv => decide (kv.1 = k)) = true then kvs.map (fun kv => if kv.1 = k then (kv.1, v) else kv) else kvs ++ [(k, v)]
def dropP {κ : Type} [DecidableEq κ] (kvs : List (κ × PV)) (k : κ) : List (κ × PV) := kvs.filter fun kv => decide (kv.1 ≠ k)
theorem RepK.any {F : Hp} {k : Key} : ∀ {kvs : List (Key × PV)} {vs : List (Key × V)}, RepK F kvs vs → (kvs.any fun kv => decide (kv.1 = k)) = vs.any fun kv => decide (kv.1 = k)
  | _, _, .nil => rfl
  | _, _, .cons _ t => by rw [List.any_cons, List.any_cons, RepK.any t]
theorem RepK.repl {F : Hp} {k : Key} {p : PV} {v : V} (q : Rep F p v) : ∀ {kvs : List (Key × PV)} {vs : List (Key × V)}, RepK F kvs vs → RepK F (kvs.map fun kv => if kv.1 = k then (kv.1, p) else kv) (vs.map fun kv => if kv.1 = k then (kv.1, v) else kv)
  | _, _, .nil => .nil
  | _, _, .cons (k := j) r t => by
    rw [List.map_cons, List.map_cons]
    by_cases e : j = k
    · simp only [e, if_true]
      exact .cons q (RepK.repl q t)
    · simp only [e, if_false]
      exact .cons r (RepK.repl q t)
theorem RepK.app {F : Hp} {us : List (Key × PV)} {ws : List (Key × V)} (s : RepK F us ws) : ∀ {kvs : List (Key × PV)} {vs : List (Key × V)}, RepK F kvs vs → RepK F (kvs ++ us) (vs ++ ws)
  | _, _, .nil => s
  | _, _, .cons r t => .cons r (RepK.app s t)
theorem RepK.put {F : Hp} {k : Key} {p : PV} {v : V} {kvs : List (Key × PV)} {vs : List (Key × V)} (r : RepK F kvs vs) (q : Rep F p v) : RepK F (putP kvs k p) (putK vs k v) := by
  unfold putP putK
  rw [r.any]
  split
  · exact r.repl q
  · exact RepK.app (.cons q .nil) r
theorem RepK.drop {F : Hp} {k : Key} : ∀ {kvs : List (Key × PV)} {vs : List (Key × V)}, RepK F kvs vs → RepK F (dropP kvs k) (dropK vs k)
  | _, _, .nil => .nil
  | _, _, .cons (k := j) r t => by
    have ih := RepK.drop (k := k) t
    unfold dropP dropK at ih ⊢
    rw [List.filter_cons, List.filter_cons]
    by_cases e : j = k
    · rw [if_neg (by simp [e]), if_neg (by simp [e])]; exact ih
    · rw [if_pos (by simp [e]), if_pos (by simp [e])]; exact .cons r ih
theorem RepT.any {F : Hp} {k : List Key} : ∀ {kvs : List (List Key × PV)} {vs : List (List Key × V)}, RepT F kvs vs → (kvs.any fun kv => decide (kv.1 = k)) = vs.any fun kv => decide (kv.1 = k)
  | _, _, .nil => rfl
  | _, _, .cons _ t => by rw [List.any_cons, List.any_cons, RepT.any t]
theorem RepT.repl {F : Hp} {k : List Key} {p : PV} {v : V} (q : Rep F p v) : ∀ {kvs : List (List Key × PV)} {vs : List (List Key × V)}, RepT F kvs vs → RepT F (kvs.map fun kv => if kv.1 = k then (kv.1, p) else kv) (vs.map fun kv => if kv.1 = k then (kv.1, v) else kv)
  | _, _, .nil => .nil
  | _, _, .cons (k := j) r t => by
    rw [List.map_cons, List.map_cons]
    by_cases e : j = k
    · simp only [e, if_true]
      exact .cons q (RepT.repl q t)
    · simp only [e, if_false]
      exact .cons r (RepT.repl q t)
theorem RepT.app {F : Hp} {us : List (List Key × PV)} {ws : List (List Key × V)} (s : RepT F us ws) : ∀ {kvs : List (List Key × PV)} {vs : List (List Key × V)}, RepT F kvs vs → RepT F (kvs ++ us) (vs ++ ws)
  | _, _, .nil => s
  | _, _, .cons r t => .cons r (RepT.app s t)
theorem RepT.put {F : Hp} {k : List Key} {p : PV} {v : V} {kvs : List (List Key × PV)} {vs : List (List Key × V)} (r : RepT F kvs vs) (q : Rep F p v) : RepT F (putP kvs k p) (putK vs k v) := by
  unfold putP putK
  rw [r.any]
  split
  · exact r.repl q
  · exact RepT.app (.cons q .nil) r
theorem putP_len {κ : Type} [DecidableEq κ] (kvs : List (κ × PV)) (k : κ) (v : PV) : (putP kvs k v).length ≤ kvs.length + 1 := by
  unfold putP
  split
  · rw [List.length_map]; omega
  · rw [List.length_append]; simp
theorem dropP_len {κ : Type} [DecidableEq κ] (kvs : List (κ × PV)) (k : κ) : (dropP kvs k).length ≤ kvs.length := List.length_filter_le _ _
/-- {} -/
theorem re_dict0 : RE X O true (.Dict [] [] pos) (eC (.dct [])) := pe_imp pe_dnewK fun σ H Q ⟨F, ρ, p, ρ', st, hf, k⟩ => by
  cases hf
  intro q hq
  have pr : PRes true (.dct []) (.ref q) H F (upd H q (.dK [])) := .inr ⟨q, _, rfl, hq, rfl, .dct .nil (Nat.zero_le _)⟩
  obtain ⟨F', po, rs⟩ := pr.fin st
  exact k _ _ F' po rs
/-- {}, its keys to be tuples -/
theorem re_dictT : RE X O true (.Dict [] [] pos) (eC (.dtt [])) := pe_imp pe_dnewT fun σ H Q ⟨F, ρ, p, ρ', st, hf, k⟩ => by
  cases hf
  intro q hq
  have pr : PRes true (.dtt []) (.ref q) H F (upd H q (.dT [])) := .inr ⟨q, _, rfl, hq, rfl, .dtt .nil (Nat.zero_le _)⟩
  obtain ⟨F', po, rs⟩ := pr.fin st
  exact k _ _ F' po rs

/-! ### x[k] = e -/
def pSet (c k v : PV) : Option PV :=
  match c with
  | .lst xs => match k with | .int i => (ixN xs.length i).map fun j => .lst (xs.set j v) | _ => none
  | .dct kvs => (key1 k).bind fun k => if kvs.length < LIM then some (.dct (putP kvs k v)) else none
  | .dtt kvs => (keyT k).bind fun k => if kvs.length < LIM then some (.dtt (putP kvs k v)) else none
  | _ => none
theorem pSet_M {c k v z : PV} (h : pSet c k v = some z) : isM c = true ∧ isM z = true := by
  cases c <;> simp [pSet] at h
  · cases k <;> simp at h
    obtain ⟨_, _, rfl⟩ := h; exact ⟨rfl, rfl⟩
  · obtain ⟨_, _, h⟩ := bind_some h
    obtain ⟨_, rfl⟩ := ite_some h
    exact ⟨rfl, rfl⟩
  · obtain ⟨_, _, h⟩ := bind_some h
    obtain ⟨_, rfl⟩ := ite_some h
    exact ⟨rfl, rfl⟩
def sSub (i : Nat) (fk fv : EF) : SF := fun ρ => (fv ρ).bind fun v => (getM v.2 i).bind fun _ => (fk v.2).bind fun k => (getM k.2 i).bind fun c => (pSet c k.1 v.1).bind fun z => some (.nx, k.2.set i (some z))
theorem ps_or {st : Stmt} {t t' : TS} (h : PS X st t) (h' : PS X st t') : PS X st (fun D σ H => t D σ H ∨ t' D σ H) := ⟨fun pins s σ H D I q => by
  rcases q with q | q
  · exact h.run pins s σ H D I q
  · exact h'.run pins s σ H D I q⟩
theorem rs_sub (i : Nat) {x : Str} {p spos : Pos} {e k : Expr} {fe fk : EF} (hu : X.A.units + 65 < cLine) (he : RE X O m' e fe) (hkx : RE X O m'' k fk) (hk : (kd O i).own = true := by rfl) (hN : X.N[i]? = some x := by rfl)
    (hv : Vis X.env.scope x := by first | exact Or.inl rfl | exact Or.inr (Or.inl rfl) | exact Or.inr (Or.inr rfl)) (hd : (x == ("__debug__" : Str)) = false := by decide) (hcd : (x == ("__classdict__" : Str)) = false := by decide)
    (hs1 : swapsWithSole [.Subscript (.Name x p) k spos] e pos.line X.env = pure false := by rfl) (hw : swappedStores [.Subscript (.Name x p) k spos] e X.env = pure none := by rfl)
    (h1 : List.map (fun x => x.snd) (assignEach [.Subscript (.Name x p) k spos] X.env) = [assign (.Subscript (.Name x p) k spos) X.env] := by rfl)
    (hs2 : swapsWith e (some (.Subscript (.Name x p) k spos)) pos.line X.env = pure false := by rfl)
    (ha : ∀ v, assign ((Expr.Name x p).Subscript k spos) X.env v = (do
      let ov ← holding [v] (eval (Expr.Name x p) X.env)
      let iv ← holding [v, ov] (eval k X.env)
      standAt spos
      holding [v, ov, iv] (setItem ov iv v)
      release [v, ov, iv] []) := by intro _; rfl) : RS X O O Ob m (.Assign [.Subscript (.Name x p) k spos] e pos) (sSub i fk fe) :=
  ps_imp (ps_or (ps_asg (re_dn he) (pg_sub (pe_var hN hv hd hcd) (re_dn hkx) set_list ha) hs1 hw h1) (ps_dput (by omega) (pe_var hN hv hd hcd) (re_dn hkx) (re_dn he) hs2)) fun D σ H ⟨F, ρ, o, ρ', s, hf, kk⟩ => by
    obtain ⟨⟨v, ρ1⟩, h1, hf⟩ := bind_some hf
    obtain ⟨c0, h0, hf⟩ := bind_some hf
    obtain ⟨⟨kv, ρ2⟩, h2, hf⟩ := bind_some hf
    obtain ⟨c, h3, hf⟩ := bind_some hf
    obtain ⟨z, h4, hf⟩ := bind_some hf
    cases hf
    obtain ⟨hc0, mc0⟩ := getM_some h0
    obtain ⟨hc, mc⟩ := getM_some h3
    cases c with
    | lst xs =>
      cases kv with
      | int j =>
        simp only [pSet] at h4
        obtain ⟨jj, hj, e⟩ := Option.map_eq_some_iff.mp h4
        subst e
        refine .inl ⟨F, ρ, v, ρ1, s, h1, fun vv H1 F1 po1 rs1 => ?_⟩
        obtain ⟨a0, o0, hs0, _, _, _⟩ := po1.st.ownAt hk hc0 mc0
        refine ⟨_, hs0, F1, ρ1, _, ρ2, po1.st, h2, fun vk H2 F2 po2 rs2 => ?_⟩
        obtain ⟨a, o, hs, ha, cc, oa⟩ := po2.st.ownAt hk hc rfl
        rw [hs0] at hs
        cases hs
        cases cc with
        | lst r z =>
          refine ⟨_, _, j, jj, rfl, rep_int (res_f rs2), ha, by rw [← r.length]; exact hj, ?_⟩
          have wr := po2.st.write oa (.lst (Reps.set ((res_f rs1).mono po2.fr.ex) jj r) (by rw [List.length_set]; exact z)) rfl
          exact kk σ _ F2 ((po1.trans po2).trans wr).s
      | _ => simp [pSet] at h4
    | dct kvs =>
      have h4' : ((key1 kv).bind fun k => if kvs.length < LIM then some (PV.dct (putP kvs k v)) else none) = some z := h4
      obtain ⟨j, hj, h4'⟩ := bind_some h4'
      obtain ⟨hl, e⟩ := ite_some h4'
      subst e
      refine .inr ⟨F, ρ, v, ρ1, s, h1, fun vv H1 F1 po1 rs1 => ?_⟩
      obtain ⟨a0, o0, hs0, _, _, _⟩ := po1.st.ownAt hk hc0 mc0
      refine ⟨_, hs0, F1, ρ1, _, ρ2, po1.st, h2, fun vk H2 F2 po2 rs2 => ?_⟩
      obtain ⟨a, o, hs, ha, cc, oa⟩ := po2.st.ownAt hk hc rfl
      rw [hs0] at hs
      cases hs
      cases cc with
      | dct r z =>
        refine ⟨_, _, rfl, .inl ⟨_, j, ha, key1_rep hj (res_f rs2), by rw [← r.length]; exact lim_lt hl, rfl⟩, ?_⟩
        have wr := po2.st.write oa (.dct (r.put (k := j) ((res_f rs1).mono po2.fr.ex)) (by have := putP_len kvs j v; have := lim_lt hl; omega)) rfl
        exact kk σ _ F2 ((po1.trans po2).trans wr).s
    | dtt kvs =>
      have h4' : ((keyT kv).bind fun k => if kvs.length < LIM then some (PV.dtt (putP kvs k v)) else none) = some z := h4
      obtain ⟨j, hj, h4'⟩ := bind_some h4'
      obtain ⟨hl, e⟩ := ite_some h4'
      subst e
      refine .inr ⟨F, ρ, v, ρ1, s, h1, fun vv H1 F1 po1 rs1 => ?_⟩
      obtain ⟨a0, o0, hs0, _, _, _⟩ := po1.st.ownAt hk hc0 mc0
      refine ⟨_, hs0, F1, ρ1, _, ρ2, po1.st, h2, fun vk H2 F2 po2 rs2 => ?_⟩
      obtain ⟨a, o, hs, ha, cc, oa⟩ := po2.st.ownAt hk hc rfl
      rw [hs0] at hs
      cases hs
      cases cc with
      | dtt r z =>
        obtain ⟨b, eb, hb⟩ := keyT_rdv po2.st.sub hj (.inl (res_f rs2))
        refine ⟨_, _, rfl, .inr ⟨_, j, b, ha, eb, hb, by rw [← r.length]; exact lim_lt hl, rfl⟩, ?_⟩
        have wr := po2.st.write oa (.dtt (r.put (k := j) ((res_f rs1).mono po2.fr.ex)) (by have := putP_len kvs j v; have := lim_lt hl; omega)) rfl
        exact kk σ _ F2 ((po1.trans po2).trans wr).s
    | _ => cases mc
end
end Pv

/-! Pv10: augmented stores, two names at once, dict reads, is of bools, chains. -/
noncomputable section
namespace Pv
open PySem PySem.Spec PyProof.Rows L2

section
variable {O : List Kd} {ρ ρ1 ρ2 : Env} {σ : L2.St} {H F H1 F1 H2 F2 : Hp} {i : Nat} {p : PV} {v : V} {m : Bool}
/-- what was new is so still, behind one more expression -/
theorem Res.stay (h : Res m p v H H1 F1 (OA O ρ1 σ)) (x : PoE O ρ1 σ H1 F1 ρ2 H2 F2) : Res m p v H H2 F2 (OA O ρ2 σ) := by
  rcases h with ⟨h, z⟩ | ⟨e, mp, a, o, e1, r, f0, c, n0, n⟩
  · exact .inl ⟨h.mono x.fr.ex, z⟩
  · refine .inr ⟨e, mp, a, o, e1, x.fr.keep _ _ r n, ?_, c.mono x.fr.ex, n0, fun z => ?_⟩
    · cases q : F2 a with
      | none => rfl
      | some u =>
        rcases x.fr.fgr a (by rw [q]; simp) with w | w | w
        · exact absurd f0 w
        · exact absurd w n
        · rw [r] at w; cases w
    · rcases x.fr.asub a z with w | w
      · exact n w
      · rw [r] at w; cases w
/-- a slot stored that owns; nobody else holds it -/
theorem StOk.setO (s : StOk O ρ σ H F) (slp : (isM p = false ∧ Rep F p v) ∨ (isM p = true ∧ Own H F p v)) (hi : i < O.length)
    (fresh : ∀ a, v = .ref a → isM p = true → ∀ j q, j ≠ i → kd O j ≠ .fr → ρ[j]? = some (some q) → σ[j]? = some (some (.ref a)) → False) : StOk (O.set i .ow) (ρ.set i (some p)) (σ.set i (some v)) H F := by
  refine ⟨s.sub, by rw [List.length_set, List.length_set]; exact s.len, fun j q hq => ?_, fun a b c q ne ho hk hp hs => ?_⟩
  · rcases get_set hq with ⟨rfl, hl, e⟩ | ⟨ne, hq⟩
    · cases e
      exact ⟨v, set_get (by rw [← s.len]; exact hl), by rw [kd_set_self hi]; exact slp⟩
    · obtain ⟨u, hu, sl⟩ := s.slot j q hq
      exact ⟨u, by rw [set_get_ne ne]; exact hu, by rw [kd_set_ne ne]; exact sl⟩
  · obtain ⟨ho1, ⟨u, hu, m⟩, ho3⟩ := ho
    rcases get_set hu with ⟨rfl, hl, e⟩ | ⟨na, hu2⟩
    · cases e
      rcases get_set ho3 with ⟨_, _, e3⟩ | ⟨z, _⟩
      · have nb : b ≠ a := fun z => ne z.symm
        rw [set_get_ne nb] at hp hs
        rw [kd_set_ne nb] at hk
        exact fresh c (Option.some.inj e3).symm m b _ nb hk hp hs
      · exact z rfl
    · rw [set_get_ne na] at ho3
      rw [kd_set_ne na] at ho1
      by_cases nb : b = i
      · subst nb
        rcases get_set hp with ⟨_, _, e⟩ | ⟨z, _⟩
        · cases e
          rcases get_set hs with ⟨_, _, e3⟩ | ⟨z, _⟩
          · have ev : v = .ref c := (Option.some.inj e3).symm
            cases mp : isM p with
            | true => exact fresh c ev mp a u na (fun z => by rw [z] at ho1; cases ho1) hu2 ho3
            | false =>
              rcases slp with ⟨_, z⟩ | ⟨z, _⟩
              · rw [ev] at z
                cases z with
                | ref e _ =>
                  obtain ⟨_, _, _, _, _, f, _⟩ := OwnA.at s (⟨ho1, ⟨u, hu2, m⟩, ho3⟩ : OwnA O ρ σ a c)
                  rw [f] at e; cases e
              · rw [mp] at z; cases z
          · exact z rfl
        · exact z rfl
      · rw [kd_set_ne nb] at hk
        rw [set_get_ne nb] at hp hs
        exact s.dis a b c q ne ⟨ho1, ⟨u, hu2, m⟩, ho3⟩ hk hp hs
/-- nobody holds what is new -/
theorem nobody {H0 F0 : Hp} {ρ0 : Env} (s0 : StOk O ρ0 σ H0 F0) (x : PoE O ρ0 σ H0 F0 ρ H F) {a : Addr} (n0 : H0 a = none) (n : ¬ OA O ρ σ a) (f : F a = none) : ∀ j q, kd O j ≠ .fr → ρ[j]? = some (some q) → σ[j]? = some (some (.ref a)) → False := fun j q hk hq hs => by
  by_cases ho : (kd O j).own = true
  · cases mq : isM q with
    | true => exact n ⟨j, ho, ⟨q, hq, mq⟩, hs⟩
    | false =>
      obtain ⟨u, hu, sl⟩ := x.st.slot j q hq
      rw [hs] at hu; cases hu
      rcases sl.own ho with ⟨_, z⟩ | ⟨z, _⟩
      · cases z with
        | ref e _ => rw [f] at e; cases e
      · rw [mq] at z; cases z
  · have hq0 : ρ0[j]? = some (some q) := by rw [← x.ek.2 j (by simpa using ho)]; exact hq
    obtain ⟨u, hu, sl⟩ := s0.slot j q hq0
    rw [hs] at hu; cases hu
    exact sl.at s0.sub n0
end
def kM (m : Bool) : Kd := if m then .ow else .fr
theorem kM_free (m : Bool) : freeK (kM m) = true := by cases m <;> rfl
def sPar (i j : Nat) (a b : EF) : SF := fun ρ => (a ρ).bind fun x => (b x.2).bind fun y => some (.nx, (y.2.set i (some x.1)).set j (some y.1))
section
variable {X : Cx} {O O1 O' Ob : List Kd} {m : Bool} {r ra rb : Option Nat} {tg a b : Expr} {fa fb : EF} {fl : LF} {pos : Pos} {i : Nat}
theorem imp_par {j : Nat} {m1 m2 : Bool} (hij : i ≠ j) (hi : i < O.length) (hj : j < O.length) (fi : freeK (kd O i) = true) (fj : freeK (kd O j) = true) : ∀ D σ H, tS O ((O.set i (kM m1)).set j (kM m2)) Ob m (sPar i j fa fb) D σ H → tPar i j (tCons (tE O m1 fa) (tCons (tE O m2 fb) tNil)) D σ H := fun D σ H ⟨F, ρ, o, ρ', s, hf, k⟩ => by
  obtain ⟨⟨x, ρ1⟩, h1, hf⟩ := bind_some hf
  obtain ⟨⟨y, ρ2⟩, h2, hf⟩ := bind_some hf
  cases hf
  refine ⟨F, ρ, x, ρ1, s, h1, fun v1 H1 F1 po1 rs1 => ⟨F1, ρ1, y, ρ2, po1.st, h2, fun v2 H2 F2 po2 rs2 => ⟨v1, v2, rfl, k _ H2 F2 ?_⟩⟩⟩
  have po := po1.trans po2
  have q1 := rs1.stay po2
  have q2 := rs2.trans po1
  -- the first
  have st1 : StOk (O.set i (kM m1)) (ρ2.set i (some x)) (σ.set i (some v1)) H2 F2 := by
    cases m1 with
    | false => exact po.st.setF (res_f q1)
    | true =>
      refine po.st.setO ?_ hi fun a ev mx jj q ne hk hq hs => ?_
      · rcases q1 with ⟨h, z⟩ | ⟨_, mx, a, o, e, h, f, c, _⟩
        · exact .inl ⟨z rfl, h⟩
        · exact .inr ⟨mx, a, o, e, h, f, c⟩
      · rcases q1 with ⟨_, z⟩ | ⟨_, _, b, o, e, h, f, c, n0, n⟩
        · rw [z rfl] at mx; cases mx
        · rw [ev] at e; cases e
          exact nobody s po n0 n f jj q hk hq hs
  have hj2 : j < (O.set i (kM m1)).length := by rw [List.length_set]; exact hj
  have kj : kd (O.set i (kM m1)) j = kd O j := kd_set_ne (fun z => hij z.symm)
  have st2 : StOk ((O.set i (kM m1)).set j (kM m2)) ((ρ2.set i (some x)).set j (some y)) ((σ.set i (some v1)).set j (some v2)) H2 F2 := by
    cases m2 with
    | false => exact st1.setF (res_f q2)
    | true =>
      refine st1.setO ?_ hj2 fun a ev mx jj q ne hk hq hs => ?_
      · rcases q2 with ⟨h, z⟩ | ⟨_, mx, a, o, e, h, f, c, _⟩
        · exact .inl ⟨z rfl, h⟩
        · exact .inr ⟨mx, a, o, e, h, f, c⟩
      · rcases rs2 with ⟨_, z⟩ | ⟨_, _, b, o, e, h, f, c, n0, n⟩
        · rw [z rfl] at mx; cases mx
        · rw [ev] at e; cases e
          by_cases ji : jj = i
          · subst ji
            rcases get_set hs with ⟨_, _, e3⟩ | ⟨z, _⟩
            · have ev1 : v1 = .ref a := (Option.some.inj e3).symm
              -- v1 was there ahead of the second
              rcases rs1 with ⟨h', _⟩ | ⟨_, _, b', o', e', h', _⟩
              · rw [ev1] at h'
                cases h' with
                | ref e4 _ => rw [po1.st.sub.nil n0] at e4; cases e4
              · rw [ev1] at e'; cases e'
                rw [h'] at n0; cases n0
            · exact z rfl
          · rw [set_get_ne ji] at hq hs
            rw [kd_set_ne ji] at hk
            exact nobody po1.st po2 n0 n f jj q hk hq hs
  refine ⟨st2, ⟨po.fr.ex, po.fr.keep, fun b hb => ?_, po.fr.fgr, po.fr.nv⟩, fun jj => ?_, fun jj => ?_⟩
  · obtain ⟨jj, ko, ⟨q, hq, mq⟩, hs⟩ := hb
    have new : ∀ {mm : Bool} {pp : PV} {vv : V}, Res mm pp vv H H2 F2 (OA O ρ2 σ) → (kM mm).own = true → isM pp = true → vv = .ref b → H b = none := fun {mm pp vv} rs kk mp ev => by
      cases mm with
      | false => cases kk
      | true =>
        rcases rs with ⟨_, z⟩ | ⟨_, _, a, o, e, h, f, c, n0, n⟩
        · rw [z rfl] at mp; cases mp
        · rw [ev] at e; cases e; exact n0
    by_cases e2 : jj = j
    · subst e2
      rw [kd_set_self hj2] at ko
      rcases get_set hq with ⟨_, _, e⟩ | ⟨z, _⟩
      · cases e
        rcases get_set hs with ⟨_, _, e3⟩ | ⟨z, _⟩
        · exact .inr (new q2 ko mq (Option.some.inj e3).symm)
        · exact absurd rfl z
      · exact absurd rfl z
    · rw [kd_set_ne e2] at ko
      rw [set_get_ne e2] at hq hs
      by_cases e1 : jj = i
      · subst e1
        rw [kd_set_self hi] at ko
        rcases get_set hq with ⟨_, _, e⟩ | ⟨z, _⟩
        · cases e
          rcases get_set hs with ⟨_, _, e3⟩ | ⟨z, _⟩
          · exact .inr (new q1 ko mq (Option.some.inj e3).symm)
          · exact absurd rfl z
        · exact absurd rfl z
      · rw [kd_set_ne e1] at ko
        rw [set_get_ne e1] at hq hs
        exact po.fr.asub b ⟨jj, ko, ⟨q, hq, mq⟩, hs⟩
  · by_cases e2 : jj = j
    · subst e2
      rw [kd_set_self hj2]
      exact ⟨⟨fun z => (by rw [z] at fj; cases fj), fun z => (by cases m2 <;> cases z)⟩, ⟨fun z => (by rw [z] at fj; cases fj), fun z => (by cases m2 <;> cases z)⟩⟩
    · rw [kd_set_ne e2]
      by_cases e1 : jj = i
      · subst e1
        rw [kd_set_self hi]
        exact ⟨⟨fun z => (by rw [z] at fi; cases fi), fun z => (by cases m1 <;> cases z)⟩, ⟨fun z => (by rw [z] at fi; cases fi), fun z => (by cases m1 <;> cases z)⟩⟩
      · rw [kd_set_ne e1]; exact ⟨Iff.rfl, Iff.rfl⟩
  · have hk : kd O jj = .lk ∨ kd O jj = .io → jj ≠ i ∧ jj ≠ j := fun z => by
      refine ⟨fun e => ?_, fun e => ?_⟩
      · subst e; rcases z with z | z <;> (rw [z] at fi; cases fi)
      · subst e; rcases z with z | z <;> (rw [z] at fj; cases fj)
    refine ⟨fun z => ?_, fun z => ?_⟩
    · obtain ⟨e1, e2⟩ := hk (.inl z)
      rw [set_get_ne e2, set_get_ne e1, set_get_ne e2, set_get_ne e1]
      exact ⟨po.ek.2 jj (by rw [z]; rfl), rfl⟩
    · obtain ⟨e1, e2⟩ := hk (.inr z)
      rw [set_get_ne e2, set_get_ne e1]
/-- x, y = e, f -/
theorem rs_par (i j : Nat) {m1 m2 : Bool} {x y : Str} {px py pt : Pos} {kt k2 pt2} (hN : X.N.Nodup) (h1 : RE X O m1 a fa) (h2 : RE X O m2 b fb) (hw : swappedStores [.Tuple [.Name x px, .Name y py] kt pt] (.Tuple [a, b] k2 pt2) X.env = pure (some [x, y]) := by rfl)
    (hc : X.calm = true := by rfl) (hi : X.N[i]? = some x := by rfl) (hj : X.N[j]? = some y := by rfl) (hij : i ≠ j := by decide) (hx : X.env.scope.names.lookup x = some .local := by rfl) (hy : X.env.scope.names.lookup y = some .local := by rfl)
    (li : i < O.length := by decide) (lj : j < O.length := by decide) (fi : freeK (kd O i) = true := by rfl) (fj : freeK (kd O j) = true := by rfl)
    (hs : swapsWithSole [.Tuple [.Name x px, .Name y py] kt pt] (.Tuple [a, b] k2 pt2) pos.line X.env = pure false := by rfl) (hs1 : starEach [a, b] X.env = (false, eval a X.env) :: starEach [b] X.env := by rfl) (hs2 : starEach [b] X.env = (false, eval b X.env) :: starEach [] X.env := by rfl) :
    RS X O ((O.set i (kM m1)).set j (kM m2)) Ob m (.Assign [.Tuple [.Name x px, .Name y py] kt pt] (.Tuple [a, b] k2 pt2) pos) (sPar i j fa fb) :=
  ps_imp (ps_par hc hN hi hj hij hx hy (pa_cons h1 (pa_cons h2 pa_nil hs2) hs1) hw hs) (imp_par hij li lj fi fj)

/-! ### x op= e -/
def sAug (i : Nat) (g : PV → PV → Option PV) (fe : EF) : SF := fun ρ => (eV i ρ).bind fun x => (fe x.2).bind fun y => (g x.1 y.1).bind fun z => some (.nx, y.2.set i (some z))
theorem rs_aug (i : Nat) {op : Operator} {g : PV → PV → Option PV} {x : Str} {pos' : Pos} {e : Expr} {fe : EF} (hN : X.N.Nodup) (ho : OpR X (inplaceOp op) (r2 false g)) (he : RE X O m' e fe) (hk : kd O i = .fr := by rfl) (hi : X.N[i]? = some x := by rfl) (hx : Loc X.env.scope x := by first | exact Or.inl rfl | exact Or.inr rfl)
    (hf : X.fn x = true ∨ X.env.scope.names.lookup x = some .local := by first | exact .inl rfl | exact .inr rfl | assumption) : RS X O O Ob m (.AugAssign (.Name x pos') op e pos) (sAug i g fe) :=
  ps_imp (ps_aug hN hi hx (re_dn he) (show PIp X op (r2 false g) from ho) hf) fun D σ H ⟨F, ρ, o, ρ', s, hf, k⟩ => by
    obtain ⟨⟨x, ρ1⟩, h1, hf⟩ := bind_some hf
    obtain ⟨⟨y, ρ2⟩, h2, hf⟩ := bind_some hf
    obtain ⟨z, h3, hf⟩ := bind_some hf
    cases hf
    obtain ⟨hp, e1⟩ := eV_some h1
    subst e1
    obtain ⟨v, hv, sl⟩ := s.slot i x hp
    rw [hk] at sl
    refine ⟨v, hv, F, ρ1, y, ρ2, s, h2, fun w H1 F1 po rs => ⟨F1, x, y, z, po.st.sub, h3, .inl (Rep.mono po.fr.ex sl), .inl (res_f rs), fun u H2 pr => ?_⟩⟩
    obtain ⟨F2, po2, rs2⟩ := pr.fin po.st
    exact k _ H2 F2 ((po.trans po2).s.trans (PoS.same (kd_set_fr hk) (PoS.setF po2.st (res_f rs2) (by rw [hk]; rfl))))
theorem i_add : OpR X (inplaceOp .Add) (r2 m fun p q => match p, q with | .int a, .int b => some (.int (a + b)) | _, _ => none) := OpR.byp fun p q z e => by
  split at e
  · cases e
    exact ⟨_, iop_add, fun x y H F Q sub hp hq k => ⟨_, _, rdv_int hp, rdv_int hq, k _ H (.inl ⟨rfl, .int _, fun _ => rfl⟩)⟩⟩
  · cases e
theorem iop_mulG : OpR X (inplaceOp .Mult) (rI mulG fun i j => .int (i * j)) := opI fun _ _ _ _ _ _ _ hc q => imul_int q hc.ok
theorem i_mul : OpR X (inplaceOp .Mult) (r2 m fun p q => match p, q with | .int a, .int b => if mulG a b then some (.int (a * b)) else none | _, _ => none) := OpR.byp fun p q z e => by
  split at e
  · obtain ⟨hl, rfl⟩ := ite_some e
    exact ⟨_, iop_mulG, fun x y H F Q sub hp hq k => ⟨_, _, rdv_int hp, rdv_int hq, hl, k _ H (.inl ⟨rfl, .int _, fun _ => rfl⟩)⟩⟩
  · cases e
theorem i_fdiv : OpR X (inplaceOp .FloorDiv) (r2 m fun p q => match p, q with | .int a, .int b => if 0 < b ∧ b < 1073741824 then some (.int (a / b)) else none | _, _ => none) := OpR.byp fun p q z e => by
  split at e
  · obtain ⟨hl, rfl⟩ := ite_some e
    exact ⟨_, iop_fdiv, fun x y H F Q sub hp hq k => ⟨_, _, rdv_int hp, rdv_int hq, hl, k _ H (.inl ⟨rfl, .int _, fun _ => rfl⟩)⟩⟩
  · cases e
/-- xs += ys, a list -/
def sExt (i : Nat) (fe : EF) : SF := fun ρ => (getL ρ i).bind fun _ => (fe ρ).bind fun y => match y.1 with
  | .lst zs => (getL y.2 i).bind fun ps => if ps.length + zs.length ≤ LIM then some (.nx, y.2.set i (some (.lst (ps ++ zs)))) else none
  | _ => none
def rExtR : R2 := fun x y H Q => ∃ l b xs zs, x = .ref l ∧ y = .ref b ∧ H l = some (.lst xs) ∧ Rd H b (.lst zs) ∧ xs.length + zs.length ≤ sizeLine ∧ Q (.ref l) (upd H l (.lst (xs ++ zs)))
theorem PoS.setSelf {ρ : Env} {σ : L2.St} {H F : Hp} {p : PV} {v : V} (s : StOk O ρ σ H F) (hk : kd O i ≠ .fr) (hp : ρ[i]? = some (some p)) (hs : σ[i]? = some (some v)) : σ.set i (some v) = σ := by
  apply List.ext_getElem?
  intro j
  by_cases e : j = i
  · subst e
    rw [set_get (by exact (List.getElem?_eq_some_iff.mp hs).1), hs]
  · rw [set_get_ne e]
theorem rs_ext (i : Nat) {x : Str} {pos' : Pos} {e : Expr} {fe : EF} (hN : X.N.Nodup) (he : RE X O true e fe) (hk : (kd O i).own = true := by rfl) (hi : X.N[i]? = some x := by rfl) (hx : Loc X.env.scope x := by first | exact Or.inl rfl | exact Or.inr rfl)
    (hf : X.fn x = true ∨ X.env.scope.names.lookup x = some .local := by first | exact .inl rfl | exact .inr rfl | assumption) : RS X O O Ob m (.AugAssign (.Name x pos') .Add e pos) (sExt i fe) :=
  ps_imp (ps_aug hN hi hx he (show PIp X .Add rExt2 from iop_ext) hf) fun D σ H ⟨F, ρ, o, ρ', s, hf, k⟩ => by
    obtain ⟨ps0, h0, hf⟩ := bind_some hf
    obtain ⟨⟨y, ρ2⟩, h2, hf⟩ := bind_some hf
    cases y with
    | lst zs =>
      obtain ⟨ps, h3, hf⟩ := bind_some hf
      obtain ⟨hl, hf⟩ := ite_some hf
      cases hf
      obtain ⟨a, o0, hs, ha, c, _⟩ := s.ownAt hk (getL_some h0) rfl
      refine ⟨_, hs, F, ρ, _, ρ2, s, h2, fun w H1 F1 po rs => ?_⟩
      obtain ⟨a', o', hs', ha', c', oa⟩ := po.st.ownAt hk (getL_some h3) rfl
      rw [hs] at hs'
      cases hs'
      cases c' with
      | lst r z =>
        have rz : ∃ b vz, w = .ref b ∧ H1 b = some (.lst vz) ∧ Reps F1 zs vz ∧ zs.length ≤ sizeLine := by
          rcases rs with ⟨h, mm⟩ | ⟨_, _, b, o, e, h, f, c, _, _⟩
          · cases mm rfl
          · cases c with
            | lst r2 z2 => exact ⟨b, _, e, h, r2, z2⟩
        obtain ⟨b, vz, rfl, hb, rz, lz⟩ := rz
        have hlen : (ps ++ zs).length ≤ sizeLine := by rw [List.length_append]; exact lim_ok hl
        refine ⟨_, b, _, vz, rfl, rfl, ha', hb, by rw [← r.length, ← rz.length]; exact lim_ok hl, ?_⟩
        have wr := po.st.write oa (.lst (r.append rz) hlen) rfl
        have es := PoS.setSelf po.st (i := i) (fun z => by rw [z] at hk; cases hk) (getL_some h3) hs
        show D.nx (σ.set i (some (V.ref _))) _
        rw [es]
        exact k σ _ F1 (po.trans wr).s
    | _ => cases hf

/-! ### is of bools; chains -/
def pIsB (p q : PV) : Option PV := match p, q with | .bl a, .bl b => some (.bl (a == b)) | _, _ => none
def pNotB (p q : PV) : Option PV := match p, q with | .bl a, .bl b => some (.bl (!(a == b))) | _, _ => none
theorem o_isB : OpR X (compareOp .Is) (r2 m pIsB) := OpR.byp fun p q z e => by
  unfold pIsB at e
  split at e
  · cases e
    refine ⟨_, op_isBl, fun x y H F Q sub hp hq k => ⟨_, _, rdv_bl hp, rdv_bl hq, ?_⟩⟩
    rw [show ∀ a b : Bool, decide (a = b) = (a == b) from fun a b => by cases a <;> cases b <;> rfl]
    exact k _ H (.inl ⟨rfl, .bl _, fun _ => rfl⟩)
  · cases e
theorem o_notB : OpR X (compareOp .IsNot) (r2 m pNotB) := OpR.byp fun p q z e => by
  unfold pNotB at e
  split at e
  · cases e
    refine ⟨_, op_notBl, fun x y H F Q sub hp hq k => ⟨_, _, rdv_bl hp, rdv_bl hq, ?_⟩⟩
    rw [show ∀ a b : Bool, decide (a = b) = (a == b) from fun a b => by cases a <;> cases b <;> rfl]
    exact k _ H (.inl ⟨rfl, .bl _, fun _ => rfl⟩)
  · cases e
/-- ints alone: a < b < c -/
def e3 (g g' : PV → PV → Option PV) (a b c : EF) : EF := fun ρ => (a ρ).bind fun x => (b x.2).bind fun y => (g x.1 y.1).bind fun z => match z with
  | .bl true => (c y.2).bind fun u => (g' y.1 u.1).bind fun w => some (w, u.2)
  | .bl false => some (.bl false, y.2)
  | _ => none
theorem pres_bl {m : Bool} {b : Bool} {v : V} {H F H' : Hp} (h : PRes m (.bl b) v H F H') : H' = H ∧ v = .bl b := by
  rcases h with ⟨e, r, _⟩ | ⟨_, _, _, _, _, c⟩
  · exact ⟨e, rep_bl r⟩
  · cases c
theorem imp_chain {c : Expr} {fc : EF} {g g' : PV → PV → Option PV} {m1 m2 m3 : Bool} (hb : ∀ p q z, g' p q = some z → ∃ b, z = .bl b) : ∀ σ H Q, tE O m (e3 g g' fa fb fc) σ H Q → tChain (r2 true g) (r2 true g') (tE O false fa) (tE O false fb) (tE O false fc) σ H Q := fun σ H Q ⟨F, ρ, p, ρ', st, hf, k⟩ => by
  obtain ⟨⟨x, ρ1⟩, h1, hf⟩ := bind_some hf
  obtain ⟨⟨y, ρ2⟩, h2, hf⟩ := bind_some hf
  obtain ⟨z, h3, hf⟩ := bind_some hf
  refine ⟨F, ρ, x, ρ1, st, h1, fun v1 H1 F1 po1 rs1 => ⟨F1, ρ1, y, ρ2, po1.st, h2, fun v2 H2 F2 po2 rs2 => ⟨F2, x, y, z, po2.st.sub, h3, .inl ((res_f rs1).mono po2.fr.ex), .inl (res_f rs2), fun v3 H3 pr => ?_⟩⟩⟩
  have po := po1.trans po2
  cases z with
  | bl bb =>
    obtain ⟨rfl, rfl⟩ := pres_bl pr
    refine ⟨bb, rfl, ?_⟩
    cases bb with
    | true =>
      obtain ⟨⟨u, ρ3⟩, h4, hf⟩ := bind_some hf
      obtain ⟨w, h5, hf⟩ := bind_some hf
      cases hf
      refine iteT ⟨F2, ρ2, u, ρ3, po2.st, h4, fun v4 H4 F4 po3 rs3 => ⟨F4, y, u, p, po3.st.sub, h5, .inl ((res_f rs2).mono po3.fr.ex), .inl (res_f rs3), fun v5 H5 pr2 => ?_⟩⟩
      obtain ⟨b2, rfl⟩ := hb y u p h5
      obtain ⟨rfl, rfl⟩ := pres_bl pr2
      exact k _ H5 F4 (po.trans po3) (.inl ⟨.bl _, fun _ => rfl⟩)
    | false =>
      cases hf
      exact iteF (k _ H3 F2 po (.inl ⟨.bl _, fun _ => rfl⟩))
  | _ => cases hf
theorem re_chain {c : Expr} {fc : EF} {g g' : PV → PV → Option PV} {op op' : CmpOp} {m1 m2 m3 : Bool} (ho : OpR X (compareOp op) (r2 true g)) (ho' : OpR X (compareOp op') (r2 true g')) (hb : ∀ p q z, g' p q = some z → ∃ b, z = .bl b) (h1 : RE X O m1 a fa) (h2 : RE X O m2 b fb) (h3 : RE X O m3 c fc) (hm : lastMarks [op, op'] [b, c] = false := by with_unfolding_all rfl) :
    RE X O m (.Compare a [op, op'] [b, c] pos) (e3 g g' fa fb fc) :=
  pe_imp (pe_chain ho ho' (re_dn h1) (re_dn h2) (re_dn h3) hm) (imp_chain (c := c) (m1 := m1) (m2 := m2) (m3 := m3) hb)
theorem rt_chain {c : Expr} {fc : EF} {g g' : PV → PV → Option PV} {op op' : CmpOp} {m1 m2 m3 : Bool} (ho : OpR X (compareOp op) (r2 true g)) (ho' : OpR X (compareOp op') (r2 true g')) (hb : ∀ p q z, g' p q = some z → ∃ b, z = .bl b) (h1 : RE X O m1 a fa) (h2 : RE X O m2 b fb) (h3 : RE X O m3 c fc) (hm : lastMarks [op, op'] [b, c] = false := by with_unfolding_all rfl) :
    RT X O (.Compare a [op, op'] [b, c] pos) (tV (e3 g g' fa fb fc)) :=
  pt_imp (pt_chain ho ho' (re_dn h1) (re_dn h2) (re_dn h3) hm) fun σ H Q h => by
    obtain ⟨F, ρ, p, ρ', st, hf, k⟩ := imp_tV (m := false) σ H Q h
    exact imp_chain (c := c) (m1 := m1) (m2 := m2) (m3 := m3) hb σ H _ ⟨F, ρ, p, ρ', st, hf, k⟩
theorem lt_bl : ∀ p q z, pLt p q = some z → ∃ b, z = .bl b := fun p q z h => by
  unfold pLt at h
  split at h
  · cases h; exact ⟨_, rfl⟩
  · cases h
theorem le_bl : ∀ p q z, pLe p q = some z → ∃ b, z = .bl b := fun p q z h => by
  unfold pLe at h
  split at h
  · cases h; exact ⟨_, rfl⟩
  · cases h
end
end Pv

/-! Pv11: defs by plain values: what a def promises, its body, its call. -/
noncomputable section
namespace Pv
open PySem PySem.Spec PyProof.Rows L2

abbrev PFn := List PV → Option (PV × List PV)
/-- what the changed parameters bear at the end -/
def outs : List Kd → List PV → Env → Option (List PV)
  | [], [], _ => some []
  | .io :: ks, _ :: ps, o :: ρ => o.bind fun q => (outs ks ps ρ).bind fun r => some (q :: r)
  | _ :: ks, p :: ps, _ :: ρ => (outs ks ps ρ).bind fun r => some (p :: r)
  | _, _, _ => none
def runF (n : Nat) (ks : List Kd) (b : SF) : PFn := fun ps => (b (ps.map some ++ List.replicate (n - ps.length) none)).bind fun x => match x.1 with
  | .rt p => (outs ks ps x.2).bind fun r => some (p, r)
  | .nx => (outs ks ps x.2).bind fun r => some (.non, r)
  | _ => none
def spF (ks : List Kd) (m : Bool) (fn : PFn) : Sp := fun vs H Q _ => ∃ F ps r ps', vs.length = ks.length ∧ ps.length = ks.length ∧ StOk ks (ps.map some) (vs.map some) H F ∧ fn ps = some (r, ps') ∧
  ∀ v H' F', Frm (OA ks (ps.map some) (vs.map some)) H F H' F' (OA ks (ps'.map some) (vs.map some)) → ps'.length = ks.length → StOk ks (ps'.map some) (vs.map some) H' F' → Res m r v H H' F' (OA ks (ps'.map some) (vs.map some)) → Q v H'

theorem outs_get : ∀ {ks : List Kd} {ps ps' : List PV} {ρ : Env}, outs ks ps ρ = some ps' → ps.length = ks.length ∧ ps'.length = ks.length ∧ ks.length ≤ ρ.length ∧ ∀ i : Nat, (ks[i]? = some Kd.io → ρ[i]? = ps'[i]?.map some) ∧ (ks[i]? ≠ some Kd.io → ps'[i]? = ps[i]?)
  | [], [], ps', ρ, h => by cases h; exact ⟨rfl, rfl, Nat.zero_le _, fun i => ⟨fun h => by simp at h, fun _ => rfl⟩⟩
  | [], _ :: _, _, _, h => by simp [outs] at h
  | k :: _, [], _, ρ, h => by cases k <;> cases ρ <;> simp [outs] at h
  | k :: _, _ :: _, _, [], h => by cases k <;> simp [outs] at h
  | k :: ks, p :: ps, ps', o :: ρ, h => by
    by_cases hk : k = .io
    · subst hk
      have h' : (o.bind fun q => (outs ks ps ρ).bind fun r => some (q :: r)) = some ps' := h
      obtain ⟨q, e1, h'⟩ := bind_some h'
      obtain ⟨r, e2, h'⟩ := bind_some h'
      cases h'
      obtain ⟨a, b, c, d⟩ := outs_get e2
      refine ⟨by simp [a], by simp [b], by simp; exact c, fun i => ?_⟩
      cases i with
      | zero => exact ⟨fun _ => by simp [e1], fun z => absurd rfl z⟩
      | succ i => exact ⟨fun z => (d i).1 z, fun z => (d i).2 z⟩
    · have h' : ((outs ks ps ρ).bind fun r => some (p :: r)) = some ps' := by
        cases k with
        | io => exact absurd rfl hk
        | fr => exact h
        | lk => exact h
        | ow => exact h
      obtain ⟨r, e2, h'⟩ := bind_some h'
      cases h'
      obtain ⟨a, b, c, d⟩ := outs_get e2
      refine ⟨by simp [a], by simp [b], by simp; exact c, fun i => ?_⟩
      cases i with
      | zero => exact ⟨fun z => absurd (Option.some.inj z) hk, fun _ => rfl⟩
      | succ i => exact ⟨fun z => (d i).1 z, fun z => (d i).2 z⟩

/-- the kinds of a def's names at its start -/
def kinds (ks : List Kd) (n : Nat) : List Kd := ks ++ List.replicate (n - ks.length) .fr
theorem kd_kinds {ks : List Kd} {n : Nat} (i : Nat) : kd (kinds ks n) i = kd ks i := by
  unfold kd kinds
  rw [List.getD_eq_getElem?_getD, List.getD_eq_getElem?_getD]
  by_cases h : i < ks.length
  · rw [List.getElem?_append_left h]
  · rw [List.getElem?_append_right (by omega), List.getElem?_eq_none (show ks.length ≤ i by omega)]
    rw [List.getElem?_replicate]
    split <;> rfl
def okKs (ks : List Kd) : Bool := ks.all fun k => k != .ow
theorem okKs_at {ks : List Kd} (h : okKs ks = true) (i : Nat) : kd ks i ≠ .ow := fun z => by
  have hi : i < ks.length := kd_lt (by rw [z]; intro q; cases q)
  have := List.all_eq_true.mp h ks[i] (List.getElem_mem hi)
  unfold kd at z
  rw [List.getD_eq_getElem?_getD, List.getElem?_eq_getElem hi] at z
  have z' : ks[i] = .ow := z
  rw [z'] at this
  cases this
theorem kd_some {ks : List Kd} {i : Nat} {k : Kd} (h : kd ks i = k) (hi : i < ks.length) : ks[i]? = some k := by
  unfold kd at h
  rw [List.getD_eq_getElem?_getD, List.getElem?_eq_getElem hi] at h
  rw [List.getElem?_eq_getElem hi, ← h]; rfl
theorem pad_get {α : Type} {l : List α} {n i : Nat} {x : α} (h : (l.map some ++ List.replicate n none)[i]? = some (some x)) : l[i]? = some x := by
  by_cases hi : i < l.length
  · rw [List.getElem?_append_left (by simpa using hi), List.getElem?_map] at h
    obtain ⟨y, hy, e⟩ := Option.map_eq_some_iff.mp h
    cases e; exact hy
  · rw [List.getElem?_append_right (by simpa using hi), List.getElem?_replicate] at h
    split at h <;> cases h
theorem pad_at {α : Type} {l : List α} {n i : Nat} {x : α} (h : l[i]? = some x) : (l.map some ++ List.replicate n none)[i]? = some (some x) := by
  have hi := (List.getElem?_eq_some_iff.mp h).1
  rw [List.getElem?_append_left (by simpa using hi), List.getElem?_map, h]; rfl
theorem map_get {α : Type} {l : List α} {i : Nat} {x : α} (h : (l.map some)[i]? = some (some x)) : l[i]? = some x := by
  rw [List.getElem?_map] at h
  obtain ⟨y, hy, e⟩ := Option.map_eq_some_iff.mp h
  cases e; exact hy
theorem map_at {α : Type} {l : List α} {i : Nat} {x : α} (h : l[i]? = some x) : (l.map some)[i]? = some (some x) := by
  rw [List.getElem?_map, h]; rfl
section
variable {P : Program} {w : World} {K : PySem.W.Frag} {mg : Str → Option Value} {base : Heap}
/-- from the parameters to the frame -/
theorem StOk.enter {ks : List Kd} {n : Nat} {ps : List PV} {vs : List V} {H F : Hp} (hl : vs.length = ks.length) (hl2 : ps.length = ks.length) (s : StOk ks (ps.map some) (vs.map some) H F) :
    StOk (kinds ks n) (ps.map some ++ List.replicate (n - ps.length) none) (vs.map some ++ List.replicate (n - vs.length) none) H F ∧ ∀ a, OA (kinds ks n) (ps.map some ++ List.replicate (n - ps.length) none) (vs.map some ++ List.replicate (n - vs.length) none) a ↔ OA ks (ps.map some) (vs.map some) a := by
  refine ⟨⟨s.sub, by simp [hl, hl2], fun i p hp => ?_, fun i j a p ne ho hk hp hs => ?_⟩, fun a => ⟨?_, ?_⟩⟩
  · obtain ⟨v, hv, sl⟩ := s.slot i p (map_at (pad_get hp))
    exact ⟨v, pad_at (map_get hv), by rw [kd_kinds]; exact sl⟩
  · obtain ⟨h1, ⟨q, h2, m⟩, h3⟩ := ho
    rw [kd_kinds] at h1 hk
    exact s.dis i j a p ne ⟨h1, ⟨q, map_at (pad_get h2), m⟩, map_at (pad_get h3)⟩ hk (map_at (pad_get hp)) (map_at (pad_get hs))
  · rintro ⟨i, h1, ⟨q, h2, m⟩, h3⟩
    rw [kd_kinds] at h1
    exact ⟨i, h1, ⟨q, map_at (pad_get h2), m⟩, map_at (pad_get h3)⟩
  · rintro ⟨i, h1, ⟨q, h2, m⟩, h3⟩
    exact ⟨i, by rw [kd_kinds]; exact h1, ⟨q, pad_at (map_get h2), m⟩, pad_at (map_get h3)⟩
/-- .. and back -/
theorem PoS.leave {ks O' : List Kd} {n : Nat} {ps ps' : List PV} {vs : List V} {ρ' : Env} {σ' : L2.St} {H F H' F' : Hp} (ok : okKs ks = true) (hl : vs.length = ks.length) (hl2 : ps.length = ks.length) (s : StOk ks (ps.map some) (vs.map some) H F)
    (x : PoS (kinds ks n) O' (ps.map some ++ List.replicate (n - ps.length) none) (vs.map some ++ List.replicate (n - vs.length) none) H F ρ' σ' H' F') (ho : outs ks ps ρ' = some ps') :
    Frm (OA ks (ps.map some) (vs.map some)) H F H' F' (OA ks (ps'.map some) (vs.map some)) ∧ StOk ks (ps'.map some) (vs.map some) H' F' ∧ ∀ a, OA ks (ps'.map some) (vs.map some) a → OA O' ρ' σ' a := by
  obtain ⟨_, l2, l3, og⟩ := outs_get ho
  obtain ⟨_, oe⟩ := s.enter (n := n) hl hl2
  have kO : ∀ i, (kd ks i = .io → kd O' i = .io) ∧ (kd ks i = .lk → kd O' i = .lk) := fun i => ⟨fun h => (x.fx i).2.mp (by rw [kd_kinds]; exact h), fun h => (x.fx i).1.mp (by rw [kd_kinds]; exact h)⟩
  have io : ∀ i, (kd ks i).own = true → kd ks i = .io := fun i h => by
    have n1 := okKs_at ok i
    cases q : kd ks i with
    | fr => rw [q] at h; cases h
    | lk => rw [q] at h; cases h
    | ow => exact absurd q n1
    | io => rfl
  have σio : ∀ i v, kd ks i = .io → vs[i]? = some v → σ'[i]? = some (some v) := fun i v h hv => by
    rw [(x.sk i).2 (by rw [kd_kinds]; exact h)]; exact pad_at hv
  have lt : ∀ {i p}, ps'[i]? = some p → i < ks.length := fun {i p} h => by
    have := (List.getElem?_eq_some_iff.mp h).1; omega
  have ρio : ∀ i p, kd ks i = .io → ps'[i]? = some p → ρ'[i]? = some (some p) := fun i p h hp => by
    rw [(og i).1 (kd_some h (lt hp)), hp]; rfl
  have oa : ∀ i a, OwnA ks (ps'.map some) (vs.map some) i a → OwnA O' ρ' σ' i a := fun i a ⟨h1, ⟨q, h2, m⟩, h3⟩ => by
    have hi := io i h1
    exact ⟨by rw [(kO i).1 hi]; rfl, ⟨q, ρio i q hi (map_get h2), m⟩, σio i _ hi (map_get h3)⟩
  refine ⟨⟨x.fr.ex, fun b o e z => x.fr.keep b o e fun q => z ((oe b).mp q), fun b ⟨i, hi⟩ => ?_, fun b h => (x.fr.fgr b h).imp id fun q => q.imp (oe b).mp id, x.fr.nv⟩, ⟨x.st.sub, by simp [l2, hl], fun i p hp => ?_, fun i j a p ne ho' hk hp hs => ?_⟩, fun a ⟨i, hi⟩ => ⟨i, oa i a hi⟩⟩
  · exact (x.fr.asub b ⟨i, oa i b hi⟩).imp (oe b).mp id
  · have hp := map_get hp
    have hi := lt hp
    obtain ⟨v, hv⟩ : ∃ v, vs[i]? = some v := ⟨_, List.getElem?_eq_getElem (by omega)⟩
    refine ⟨v, map_at hv, ?_⟩
    cases q : kd ks i with
    | ow => exact absurd q (okKs_at ok i)
    | io =>
      obtain ⟨v', hv', sl⟩ := x.st.slot i p (ρio i p q hp)
      rw [σio i v q hv] at hv'
      cases hv'
      rw [(kO i).1 q] at sl
      exact sl
    | fr =>
      have hp0 : ps[i]? = some p := by
        rw [← (og i).2 (by rw [kd_some q hi]; intro z; cases z)]; exact hp
      obtain ⟨v', hv', sl⟩ := s.slot i p (map_at hp0)
      rw [map_at hv] at hv'
      cases hv'
      rw [q] at sl
      exact Rep.mono x.fr.ex sl
    | lk =>
      have hp0 : ps[i]? = some p := by
        rw [← (og i).2 (by rw [kd_some q hi]; intro z; cases z)]; exact hp
      obtain ⟨e1, e2⟩ := (x.sk i).1 (by rw [kd_kinds]; exact q)
      obtain ⟨v', hv', sl⟩ := x.st.slot i p (by rw [e1]; exact pad_at hp0)
      rw [e2, pad_at hv] at hv'
      cases hv'
      rw [(kO i).2 q] at sl
      exact sl
  · have hp := map_get hp
    have hs := map_get hs
    have hi := lt hp
    have kj : kd O' j ≠ .fr ∧ ρ'[j]? = some (some p) ∧ σ'[j]? = some (some (.ref a)) := by
      cases q : kd ks j with
      | ow => exact absurd q (okKs_at ok j)
      | fr => exact absurd q hk
      | io => exact ⟨(by rw [(kO j).1 q]; intro z; cases z), ρio j p q hp, σio j _ q hs⟩
      | lk =>
        have hp0 : ps[j]? = some p := by
          rw [← (og j).2 (by rw [kd_some q hi]; intro z; cases z)]; exact hp
        obtain ⟨e1, e2⟩ := (x.sk j).1 (by rw [kd_kinds]; exact q)
        exact ⟨(by rw [(kO j).2 q]; intro z; cases z), (by rw [e1]; exact pad_at hp0), (by rw [e2]; exact pad_at hs)⟩
    exact x.st.dis i j a p ne (oa i a ho') kj.1 kj.2.1 kj.2.2
/-- a def of the text keeps the promise of its body -/
theorem fn_pv {x qual : Str} {st : Stmt} {f : Addr} {fd : FuncData} {N pn : List Str} {k : Nat} {ks O' Ob : List Kd} {m : Bool} {b : SF} (F : Fun K x qual st f fd) (S : FnScope N pn (defScope st)) (ok : okKs ks = true) (hk : pn.length = ks.length)
    (hb : ∀ (cdv : Value) (A : Around) (outer : List PySem.Env) (s : Shared) (H : Hp) (E : XK), Room k (A.deeper (envOfC qual (defScope st) s.heap.objs.size f cdv)) →
      RSs (cxOf CX0 P w K mg base N qual (defScope st) f cdv A outer s H E).nox (kinds ks N.length) O' Ob m (defBody st) b) :
    FnOk P w K mg base CX0 (k + 1) f fd pn (spF ks m (runF N.length ks b)) := by
  refine F.ok S (fun vs H Q E h => ?_) (fun cdv A outer s H vs Q E hr h => ?_)
  · obtain ⟨_, _, _, _, hl, _⟩ := h
    rw [hl, hk]
  · obtain ⟨F, ps, r, ps', hl, hl2, st, hf, kk⟩ := h
    obtain ⟨⟨o, ρ'⟩, e1, hf⟩ := bind_some hf
    obtain ⟨se, _⟩ := st.enter (n := N.length) hl hl2
    refine ⟨_, hb cdv A outer s H E hr, F, _, o, ρ', se, e1, ?_⟩
    cases o with
    | nx =>
      obtain ⟨q, e2, hf⟩ := bind_some hf
      cases hf
      intro σ' H' F' x
      obtain ⟨x1, x2, x3⟩ := x.leave ok hl hl2 st e2
      exact kk _ H' F' x1 (outs_get e2).2.1 x2 (.inl ⟨.non, fun _ => rfl⟩)
    | rt p =>
      obtain ⟨q, e2, hf⟩ := bind_some hf
      cases hf
      intro v σ' H' F' O2 x rs
      obtain ⟨x1, x2, x3⟩ := x.leave ok hl hl2 st e2
      refine kk v H' F' x1 (outs_get e2).2.1 x2 ?_
      rcases rs with h | ⟨e, mm, i, a, ev, ho, hko, hp⟩
      · rcases h with h | ⟨e, mm, a, o, e1, r, f0, c, n0, n⟩
        · exact .inl h
        · exact .inr ⟨e, mm, a, o, e1, r, f0, c, n0, fun z => n (x3 a z)⟩
      · -- what a name of the def owned
        obtain ⟨q0, o, hq, _, ha, fa, c⟩ := ho.at x.st
        rw [hp] at hq
        cases hq
        obtain ⟨_, l2, _, og⟩ := outs_get e2
        -- no parameter holds it
        have np : ∀ j p', kd ks j = .io → ps[j]? = some p' → vs[j]? = some (.ref a) → False := fun j p' hj hpj hvj => by
          have ij : i ≠ j := by
            rintro rfl
            have := (x.fx i).2.mp (by rw [kd_kinds]; exact hj)
            rw [hko] at this; cases this
          have lj : j < ks.length := by rw [← hl2]; exact (List.getElem?_eq_some_iff.mp hpj).1
          obtain ⟨p2, hp2⟩ : ∃ p2, ps'[j]? = some p2 := ⟨_, List.getElem?_eq_getElem (by omega)⟩
          refine x.st.dis i j a p2 ij ho (by rw [(x.fx j).2.mp (by rw [kd_kinds]; exact hj)]; intro z; cases z) ?_ ?_
          · rw [(og j).1 (kd_some hj lj), hp2]; rfl
          · rw [(x.sk j).2 (by rw [kd_kinds]; exact hj)]; exact pad_at hvj
        have ioK : ∀ j, (kd ks j).own = true → kd ks j = .io := fun j h => by
          have n1 := okKs_at ok j
          generalize kd ks j = z at h n1
          cases z with
          | fr => cases h
          | lk => cases h
          | ow => exact absurd rfl n1
          | io => rfl
        refine .inr ⟨e, mm, a, o, ev, ha, fa, c, ?_, fun ⟨j, hj⟩ => ?_⟩
        · rcases x.fr.asub a ⟨i, ho⟩ with ⟨j, hj⟩ | z
          · obtain ⟨h1, ⟨p', h2, _⟩, h3⟩ := hj
            rw [kd_kinds] at h1
            exact (np j p' (ioK j h1) (pad_get h2) (pad_get h3)).elim
          · exact z
        · obtain ⟨h1, ⟨p', h2, _⟩, h3⟩ := hj
          have h2 := map_get h2
          have lj := (List.getElem?_eq_some_iff.mp h2).1
          exact np j (ps[j]'(by omega)) (ioK j h1) (List.getElem?_eq_getElem (by omega)) (map_get h3)
    | bk => cases hf
    | ct => cases hf
end

/-! ### the call -/
inductive AF where
  | ex (f : EF) | sl (j : Nat)
def evA : List AF → Env → Option (List (PV ⊕ Nat) × Env)
  | [], ρ => some ([], ρ)
  | .ex f :: r, ρ => (f ρ).bind fun x => (evA r x.2).bind fun y => some (.inl x.1 :: y.1, y.2)
  | .sl j :: r, ρ => (eV j ρ).bind fun _ => (evA r ρ).bind fun y => some (.inr j :: y.1, y.2)
def rsA (ρ : Env) : List (PV ⊕ Nat) → Option (List PV)
  | [] => some []
  | .inl p :: r => (rsA ρ r).bind fun ps => some (p :: ps)
  | .inr j :: r => (eV j ρ).bind fun x => (rsA ρ r).bind fun ps => some (x.1 :: ps)
def wbA : List Kd → List (PV ⊕ Nat) → List PV → Env → Env
  | .io :: ks, .inr j :: as, p :: ps, ρ => wbA ks as ps (ρ.set j (some p))
  | _ :: ks, _ :: as, _ :: ps, ρ => wbA ks as ps ρ
  | _, _, _, ρ => ρ
def eCall (ks : List Kd) (fn : PFn) (as : List AF) : EF := fun ρ => (evA as ρ).bind fun x => (rsA x.2 x.1).bind fun ps => (fn ps).bind fun r => some (r.1, wbA ks x.1 r.2 x.2)
/-- no name twice where one of the two is changed -/
def dsj1 (k : Kd) (j : Nat) : List Kd → List (Option Nat) → Bool
  | k' :: ks, some j' :: js => (j != j' || (k != .io && k' != .io)) && dsj1 k j ks js
  | _ :: ks, none :: js => dsj1 k j ks js
  | _, _ => true
def dsj : List Kd → List (Option Nat) → Bool
  | k :: ks, some j :: js => dsj1 k j ks js && dsj ks js
  | _ :: ks, none :: js => dsj ks js
  | _, _ => true
def AF.s : AF → Option Nat
  | .ex _ => none
  | .sl j => some j
def xs_s : PV ⊕ Nat → Option Nat
  | .inl _ => none
  | .inr j => some j
theorem evA_s : ∀ {as : List AF} {ρ ρ' : Env} {xs : List (PV ⊕ Nat)}, evA as ρ = some (xs, ρ') → xs.map xs_s = as.map AF.s
  | [], _, _, _, h => by cases h; rfl
  | .ex f :: r, ρ, _, _, h => by
    obtain ⟨x, _, h⟩ := bind_some h
    obtain ⟨y, h2, h⟩ := bind_some h
    cases h
    rw [List.map_cons, List.map_cons, evA_s h2]; rfl
  | .sl j :: r, ρ, _, _, h => by
    obtain ⟨x, _, h⟩ := bind_some h
    obtain ⟨y, h2, h⟩ := bind_some h
    cases h
    rw [List.map_cons, List.map_cons, evA_s h2]; rfl
theorem dsj1_at {k : Kd} {j : Nat} : ∀ {ks : List Kd} {js : List (Option Nat)} {b : Nat} {k' : Kd}, dsj1 k j ks js = true → ks[b]? = some k' → js[b]? = some (some j) → k ≠ .io ∧ k' ≠ .io
  | [], _, _, _, _, h1, _ => by simp at h1
  | _ :: _, [], _, _, _, _, h2 => by simp at h2
  | k' :: ks, none :: js, 0, _, _, _, h2 => by simp at h2
  | k' :: ks, none :: js, b + 1, _, h, h1, h2 => dsj1_at (ks := ks) (js := js) (b := b) h (by simpa using h1) (by simpa using h2)
  | k' :: ks, some j' :: js, 0, _, h, h1, h2 => by
    simp only [List.getElem?_cons_zero, Option.some.injEq] at h1 h2
    subst h1 h2
    simp only [dsj1, Bool.and_eq_true, Bool.or_eq_true, bne_self_eq_false, Bool.false_eq_true, false_or, bne_iff_ne] at h
    exact h.1
  | k' :: ks, some j' :: js, b + 1, _, h, h1, h2 => by
    simp only [dsj1, Bool.and_eq_true] at h
    exact dsj1_at (ks := ks) (js := js) (b := b) h.2 (by simpa using h1) (by simpa using h2)
theorem dsj_at : ∀ {ks : List Kd} {js : List (Option Nat)} {a b : Nat} {k k' : Kd} {j : Nat}, dsj ks js = true → a < b → ks[a]? = some k → ks[b]? = some k' → js[a]? = some (some j) → js[b]? = some (some j) → k ≠ .io ∧ k' ≠ .io
  | [], _, _, _, _, _, _, _, _, h1, _, _, _ => by simp at h1
  | _ :: _, [], _, _, _, _, _, _, _, _, _, h2, _ => by simp at h2
  | _ :: _, _ :: _, _, 0, _, _, _, _, h, _, _, _, _ => by omega
  | k0 :: ks, none :: js, 0, b + 1, _, _, _, _, _, _, _, h3, _ => by simp at h3
  | k0 :: ks, some j0 :: js, 0, b + 1, _, _, _, h, _, h1, h2, h3, h4 => by
    simp only [List.getElem?_cons_zero, Option.some.injEq] at h1 h3
    subst h1 h3
    simp only [dsj, Bool.and_eq_true] at h
    exact dsj1_at h.1 (by simpa using h2) (by simpa using h4)
  | k0 :: ks, o :: js, a + 1, b + 1, _, _, _, h, hab, h1, h2, h3, h4 => by
    have h' : dsj ks js = true := by
      cases o with
      | none => exact h
      | some j0 =>
        simp only [dsj, Bool.and_eq_true] at h
        exact h.2
    exact dsj_at (ks := ks) (js := js) (a := a) (b := b) h' (by omega) (by simpa using h1) (by simpa using h2) (by simpa using h3) (by simpa using h4)

def Arg1 (O : List Kd) (ρ : Env) (σ : L2.St) (H F : Hp) (k : Kd) (x : PV ⊕ Nat) (v : V) : Prop :=
  match x with
  | .inl p => (k = .fr ∧ Rep F p v) ∨ (k = .lk ∧ RdOk p v H F (OA O ρ σ))
  | .inr j => σ[j]? = some (some v) ∧ (k = .lk ∨ (k = .io ∧ (kd O j).own = true))
def ArgsOk (O : List Kd) (ρ : Env) (σ : L2.St) (H F : Hp) : List Kd → List (PV ⊕ Nat) → List V → Prop
  | [], [], [] => True
  | k :: ks, x :: xs, v :: vs => Arg1 O ρ σ H F k x v ∧ ArgsOk O ρ σ H F ks xs vs
  | _, _, _ => False
theorem RdOk.stay2 {O : List Kd} {ρ ρ' : Env} {σ : L2.St} {p : PV} {v : V} {H F H' F' : Hp} (h : RdOk p v H F (OA O ρ σ)) (x : PoE O ρ σ H F ρ' H' F') : RdOk p v H' F' (OA O ρ' σ) := by
  rcases h with h | ⟨m, a, o, e, r, c, n⟩
  · exact .inl (h.mono x.fr.ex)
  · refine .inr ⟨m, a, o, e, rd_keep x.fr r n, c.mono x.fr.ex, fun z => ?_⟩
    rcases x.fr.asub a z with w | w
    · exact n w
    · rcases r with r | ⟨_, r⟩ <;> (rw [r] at w; cases w)
theorem ArgsOk.stay {O : List Kd} {ρ ρ' : Env} {σ : L2.St} {H F H' F' : Hp} (x : PoE O ρ σ H F ρ' H' F') : ∀ {ks : List Kd} {xs : List (PV ⊕ Nat)} {vs : List V}, ArgsOk O ρ σ H F ks xs vs → ArgsOk O ρ' σ H' F' ks xs vs
  | [], [], [], _ => trivial
  | k :: ks, y :: xs, v :: vs, h => by
    refine ⟨?_, ArgsOk.stay x h.2⟩
    have h1 := h.1
    cases y with
    | inl p => exact h1.imp (fun z => ⟨z.1, z.2.mono x.fr.ex⟩) fun z => ⟨z.1, z.2.stay2 x⟩
    | inr j => exact h1
  | [], [], _ :: _, h => h.elim
  | [], _ :: _, _, h => h.elim
  | _ :: _, [], _, h => h.elim
  | _ :: _, _ :: _, [], h => h.elim
theorem ArgsOk.at {O : List Kd} {ρ : Env} {σ : L2.St} {H F : Hp} : ∀ {ks : List Kd} {xs : List (PV ⊕ Nat)} {vs : List V}, ArgsOk O ρ σ H F ks xs vs → xs.length = ks.length ∧ vs.length = ks.length ∧ ∀ (i : Nat) k x v, ks[i]? = some k → xs[i]? = some x → vs[i]? = some v → Arg1 O ρ σ H F k x v
  | [], [], [], _ => ⟨rfl, rfl, fun i k x v h => by simp at h⟩
  | k :: ks, y :: xs, v :: vs, h => by
    obtain ⟨l1, l2, f⟩ := ArgsOk.at h.2
    refine ⟨by simp [l1], by simp [l2], fun i k' x' v' h1 h2 h3 => ?_⟩
    cases i with
    | zero =>
      simp only [List.getElem?_cons_zero, Option.some.injEq] at h1 h2 h3
      subst h1 h2 h3
      exact h.1
    | succ i => exact f i k' x' v' (by simpa using h1) (by simpa using h2) (by simpa using h3)
  | [], [], _ :: _, h => h.elim
  | [], _ :: _, _, h => h.elim
  | _ :: _, [], _, h => h.elim
  | _ :: _, _ :: _, [], h => h.elim
theorem rsA_at {ρ : Env} : ∀ {xs : List (PV ⊕ Nat)} {ps : List PV}, rsA ρ xs = some ps → ps.length = xs.length ∧ ∀ (i : Nat) x p, xs[i]? = some x → ps[i]? = some p → (x = .inl p ∨ ∃ j, x = .inr j ∧ ρ[j]? = some (some p))
  | [], _, h => by cases h; exact ⟨rfl, fun i x p h => by simp at h⟩
  | .inl q :: r, _, h => by
    obtain ⟨ps, h1, h⟩ := bind_some h
    cases h
    obtain ⟨l, f⟩ := rsA_at h1
    refine ⟨by simp [l], fun i x p e1 e2 => ?_⟩
    cases i with
    | zero =>
      simp only [List.getElem?_cons_zero, Option.some.injEq] at e1 e2
      subst e1 e2; exact .inl rfl
    | succ i => exact f i x p (by simpa using e1) (by simpa using e2)
  | .inr j :: r, _, h => by
    obtain ⟨⟨q, ρ1⟩, h0, h⟩ := bind_some h
    obtain ⟨ps, h1, h⟩ := bind_some h
    cases h
    obtain ⟨l, f⟩ := rsA_at h1
    refine ⟨by simp [l], fun i x p e1 e2 => ?_⟩
    cases i with
    | zero =>
      simp only [List.getElem?_cons_zero, Option.some.injEq] at e1 e2
      subst e1 e2; exact .inr ⟨j, rfl, (eV_some h0).1⟩
    | succ i => exact f i x p (by simpa using e1) (by simpa using e2)
theorem wbA_len : ∀ {ks : List Kd} {xs : List (PV ⊕ Nat)} {ps : List PV} {ρ : Env}, (wbA ks xs ps ρ).length = ρ.length
  | [], _, _, _ => by simp [wbA]
  | _ :: _, [], _, _ => by simp [wbA]
  | _ :: _, _ :: _, [], _ => by simp [wbA]
  | k :: ks, x :: xs, p :: ps, ρ => by
    cases k <;> cases x <;> simp only [wbA] <;> first | exact wbA_len | (rw [wbA_len, List.length_set])
theorem wbA_get : ∀ {ks : List Kd} {xs : List (PV ⊕ Nat)} {ps : List PV} {ρ : Env} {i : Nat}, i < ρ.length → xs.length = ks.length → ps.length = ks.length → (∃ (k : Nat) (p : PV), ks[k]? = some Kd.io ∧ xs[k]? = some (Sum.inr i) ∧ ps[k]? = some p ∧ (wbA ks xs ps ρ)[i]? = some (some p)) ∨ ((∀ k : Nat, ks[k]? = some Kd.io → xs[k]? ≠ some (Sum.inr i)) ∧ (wbA ks xs ps ρ)[i]? = ρ[i]?)
  | [], _, _, _, _, _, _, _ => .inr ⟨fun k h => by simp at h, by simp [wbA]⟩
  | _ :: _, [], _, _, _, _, h, _ => by simp at h
  | _ :: _, _ :: _, [], _, _, _, _, h => by simp at h
  | k :: ks, x :: xs, p :: ps, ρ, i, hi, l1, l2 => by
    have l1' : xs.length = ks.length := by simpa using l1
    have l2' : ps.length = ks.length := by simpa using l2
    by_cases hk : k = .io ∧ ∃ j, x = .inr j
    · obtain ⟨rfl, j, rfl⟩ := hk
      have e : wbA (.io :: ks) (.inr j :: xs) (p :: ps) ρ = wbA ks xs ps (ρ.set j (some p)) := rfl
      rw [e]
      rcases wbA_get (ρ := ρ.set j (some p)) (i := i) (by rw [List.length_set]; exact hi) l1' l2' with ⟨b, q, h1, h2, h3, h4⟩ | ⟨h1, h2⟩
      · exact .inl ⟨b + 1, q, by simpa using h1, by simpa using h2, by simpa using h3, h4⟩
      · by_cases ij : j = i
        · subst ij
          rw [set_get hi] at h2
          exact .inl ⟨0, p, rfl, rfl, rfl, h2⟩
        · rw [set_get_ne (fun z => ij z.symm)] at h2
          refine .inr ⟨fun b hb hx => ?_, h2⟩
          cases b with
          | zero => simp at hx; exact ij hx
          | succ b => exact h1 b (by simpa using hb) (by simpa using hx)
    · have e : wbA (k :: ks) (x :: xs) (p :: ps) ρ = wbA ks xs ps ρ := by
        cases k <;> cases x <;> first | rfl | exact absurd ⟨rfl, _, rfl⟩ hk
      rw [e]
      rcases wbA_get (ρ := ρ) (i := i) hi l1' l2' with ⟨b, q, h1, h2, h3, h4⟩ | ⟨h1, h2⟩
      · exact .inl ⟨b + 1, q, by simpa using h1, by simpa using h2, by simpa using h3, h4⟩
      · refine .inr ⟨fun b hb hx => ?_, h2⟩
        cases b with
        | zero =>
          simp at hb hx
          exact hk ⟨hb, i, hx⟩
        | succ b => exact h1 b (by simpa using hb) (by simpa using hx)

/-- the arguments at a call: a state of the callee's parameters -/
theorem ArgsOk.mini {O ks : List Kd} {ρ : Env} {σ : L2.St} {H F : Hp} {xs : List (PV ⊕ Nat)} {ps : List PV} {vs : List V} (s : StOk O ρ σ H F) (h : ArgsOk O ρ σ H F ks xs vs) (hr : rsA ρ xs = some ps) (hd : dsj ks (xs.map xs_s) = true) :
    StOk ks (ps.map some) (vs.map some) H F ∧ ∀ i a, OwnA ks (ps.map some) (vs.map some) i a → ∃ j, xs[i]? = some (.inr j) ∧ ks[i]? = some .io ∧ OwnA O ρ σ j a := by
  obtain ⟨l1, l2, f⟩ := h.at
  obtain ⟨l3, g⟩ := rsA_at hr
  have arg : ∀ {i p v}, ps[i]? = some p → vs[i]? = some v → ∃ x, xs[i]? = some x ∧ ks[i]? = some (kd ks i) ∧ Arg1 O ρ σ H F (kd ks i) x v ∧ (x = .inl p ∨ ∃ j, x = .inr j ∧ ρ[j]? = some (some p)) := fun {i p v} hp hv => by
    have hi := (List.getElem?_eq_some_iff.mp hp).1
    have hx : xs[i]? = some (xs[i]'(by omega)) := List.getElem?_eq_getElem (by omega)
    have hk : ks[i]? = some (kd ks i) := kd_some rfl (by omega)
    exact ⟨_, hx, hk, f i _ _ _ hk hx hv, g i _ _ hx hp⟩
  have own : ∀ i a, OwnA ks (ps.map some) (vs.map some) i a → ∃ j, xs[i]? = some (.inr j) ∧ ks[i]? = some .io ∧ OwnA O ρ σ j a := fun i a ⟨h1, ⟨p, h2, m⟩, h3⟩ => by
    obtain ⟨x, hx, hk, ha, hv⟩ := arg (map_get h2) (map_get h3)
    rcases hv with rfl | ⟨j, rfl, hj⟩
    · rcases ha with ⟨e, _⟩ | ⟨e, _⟩ <;> (rw [e] at h1; cases h1)
    · obtain ⟨a1, a2⟩ := ha
      rcases a2 with e | ⟨e, ho⟩
      · rw [e] at h1; cases h1
      · rw [e] at hk
        exact ⟨j, hx, hk, ho, ⟨p, hj, m⟩, a1⟩
  refine ⟨⟨s.sub, by simp; omega, fun i p hp => ?_, fun i j a p ne ho hk hp hs => ?_⟩, own⟩
  · have hp := map_get hp
    have hi := (List.getElem?_eq_some_iff.mp hp).1
    have hv : vs[i]? = some (vs[i]'(by omega)) := List.getElem?_eq_getElem (by omega)
    refine ⟨_, map_at hv, ?_⟩
    obtain ⟨x, hx, hk, ha, hxp⟩ := arg hp hv
    rcases hxp with rfl | ⟨j, rfl, hj⟩
    · rcases ha with ⟨e, r⟩ | ⟨e, r⟩
      · rw [e]; exact r
      · rw [e]
        exact r.val
    · obtain ⟨a1, a2⟩ := ha
      obtain ⟨v', hv', sl⟩ := s.slot j p hj
      rw [a1] at hv'
      cases hv'
      rcases a2 with e | ⟨e, ho⟩
      · rw [e]
        by_cases ho : (kd O j).own = true
        · rcases sl.own ho with ⟨_, z⟩ | ⟨m, a, o, e, h, _, c⟩
          · exact .inl z
          · exact .inr ⟨m, a, o, e, .inl h, c⟩
        · generalize kd O j = q at sl ho
          cases q with
          | fr => exact .inl sl
          | lk => exact sl
          | ow => exact absurd rfl ho
          | io => exact absurd rfl ho
      · rw [e]
        exact sl.own ho
  · -- two parameters, one of them changed
    obtain ⟨j1, hx1, hk1, ho1⟩ := own i a ho
    have hp := map_get hp
    have hs := map_get hs
    obtain ⟨x2, hx2, hk2, ha2, hv2⟩ := arg hp hs
    obtain ⟨_, _, _, _, e0, f0, _⟩ := ho1.at s
    have notF : Rep F p (.ref a) → False := fun r => by
      cases r with
      | ref e _ => rw [f0] at e; cases e
    rcases hv2 with rfl | ⟨j2, rfl, hj2⟩
    · rcases ha2 with ⟨e, r⟩ | ⟨e, r⟩
      · exact hk e
      · rcases r with r | ⟨_, b, o, e, _, _, n⟩
        · exact notF r
        · cases e; exact n ⟨j1, ho1⟩
    · obtain ⟨a1, a2⟩ := ha2
      by_cases e : j2 = j1
      · subst e
        have sx : ∀ {b : Nat}, xs[b]? = some (.inr j2) → (xs.map xs_s)[b]? = some (some j2) := fun {b} h => by rw [List.getElem?_map, h]; rfl
        rcases Nat.lt_or_gt_of_ne ne with h | h
        · exact (dsj_at hd h hk1 hk2 (sx hx1) (sx hx2)).1 rfl
        · exact (dsj_at hd h hk2 hk1 (sx hx2) (sx hx1)).2 rfl
      · by_cases kf : kd O j2 = .fr
        · obtain ⟨v', hv', sl⟩ := s.slot j2 p hj2
          rw [a1] at hv'
          cases hv'
          rw [kf] at sl
          exact notF sl
        · exact s.dis j1 j2 a p (fun z => e z.symm) ho1 kf hj2 a1
/-- behind a call: the changed things told -/
theorem PoE.call {O ks : List Kd} {ρ : Env} {σ : L2.St} {H F H' F' : Hp} {xs : List (PV ⊕ Nat)} {ps ps' : List PV} {vs : List V} (s : StOk O ρ σ H F) (h : ArgsOk O ρ σ H F ks xs vs) (hr : rsA ρ xs = some ps) (hd : dsj ks (xs.map xs_s) = true) (ok : okKs ks = true)
    (fr : Frm (OA ks (ps.map some) (vs.map some)) H F H' F' (OA ks (ps'.map some) (vs.map some))) (l' : ps'.length = ks.length) (st : StOk ks (ps'.map some) (vs.map some) H' F') : PoE O ρ σ H F (wbA ks xs ps' ρ) H' F' ∧ ∀ a, OA O (wbA ks xs ps' ρ) σ a → OA O ρ σ a := by
  obtain ⟨sm, own⟩ := h.mini s hr hd
  obtain ⟨l1, l2, f⟩ := h.at
  obtain ⟨l3, g⟩ := rsA_at hr
  have wl : (wbA ks xs ps' ρ).length = ρ.length := wbA_len
  have lt : ∀ {i : Nat} {o : Option PV}, (wbA ks xs ps' ρ)[i]? = some o → i < ρ.length := fun {i o} h => by
    have := (List.getElem?_eq_some_iff.mp h).1
    rw [wl] at this; exact this
  have sub : ∀ a, OA ks (ps.map some) (vs.map some) a → OA O ρ σ a := fun a ⟨i, hi⟩ => by
    obtain ⟨j, _, _, ho⟩ := own i a hi
    exact ⟨j, ho⟩
  -- a slot that was changed
  have chg : ∀ {i b : Nat} {p' : PV}, ks[b]? = some Kd.io → xs[b]? = some (Sum.inr i) → ps'[b]? = some p' → ∃ p v, ps[b]? = some p ∧ vs[b]? = some v ∧ ρ[i]? = some (some p) ∧ σ[i]? = some (some v) ∧ (kd O i).own = true ∧ SlotOk .io p' v H' F' := fun {i b p'} h1 h2 h3 => by
    have hb := (List.getElem?_eq_some_iff.mp h3).1
    have hp : ps[b]? = some (ps[b]'(by omega)) := List.getElem?_eq_getElem (by omega)
    have hv : vs[b]? = some (vs[b]'(by omega)) := List.getElem?_eq_getElem (by omega)
    have hf := f b _ _ _ h1 h2 hv
    have hg := g b _ _ h2 hp
    rcases hg with z | ⟨j, z, hj⟩
    · cases z
    · cases z
      obtain ⟨a1, a2⟩ := hf
      rcases a2 with z | ⟨_, ho⟩
      · cases z
      · obtain ⟨v', hv', sl⟩ := st.slot b p' (map_at h3)
        rw [map_at hv] at hv'
        cases hv'
        have kb : kd ks b = .io := by
          unfold kd; rw [List.getD_eq_getElem?_getD, h1]; rfl
        rw [kb] at sl
        exact ⟨_, _, hp, hv, hj, a1, ho, sl⟩
  have oaB : ∀ i a, OwnA O (wbA ks xs ps' ρ) σ i a → OwnA O ρ σ i a := fun i a ⟨h1, ⟨q, h2, m⟩, h3⟩ => by
    rcases wbA_get (ks := ks) (xs := xs) (ps := ps') (lt h2) l1 l' with ⟨b, p', e1, e2, e3, e4⟩ | ⟨_, e⟩
    · rw [h2] at e4
      cases e4
      obtain ⟨p, v, _, _, hp, hv, ho, sl⟩ := chg e1 e2 e3
      rw [h3] at hv
      cases hv
      cases mp : isM p with
      | true => exact ⟨h1, ⟨p, hp, mp⟩, h3⟩
      | false =>
        obtain ⟨v', hv', sl0⟩ := s.slot i p hp
        rw [h3] at hv'
        cases hv'
        rcases sl0.own ho with ⟨_, z⟩ | ⟨z, _⟩
        · cases z with
          | ref e _ =>
            rcases sl with ⟨z, _⟩ | ⟨_, b', o', e', _, f', _⟩
            · rw [m] at z; cases z
            · cases e'
              rw [fr.ex _ _ e] at f'; cases f'
        · rw [mp] at z; cases z
    · rw [e] at h2
      exact ⟨h1, ⟨q, h2, m⟩, h3⟩
  -- who is not changed
  have notA : ∀ {i a q}, (∀ k : Nat, ks[k]? = some Kd.io → xs[k]? ≠ some (Sum.inr i)) → kd O i ≠ .fr → ρ[i]? = some (some q) → σ[i]? = some (some (.ref a)) → ¬ OA ks (ps.map some) (vs.map some) a := fun {i a q} hn hk hq hs ⟨b, hb⟩ => by
    obtain ⟨j, hx, hkb, ho⟩ := own b a hb
    have ne : j ≠ i := by
      rintro rfl
      exact hn b hkb hx
    exact s.dis j i a q ne ho hk hq hs
  refine ⟨⟨⟨st.sub, by rw [wl]; exact s.len, fun i p hp => ?_, fun i j a p ne ho hk hp hs => ?_⟩, ⟨fr.ex, fun b o e n => fr.keep b o e fun z => n (sub b z), fun b ⟨i, hi⟩ => .inl ⟨i, oaB i b hi⟩, fun b h => (fr.fgr b h).imp id fun q => q.imp (sub b) id, fr.nv⟩, wl, fun i hi => ?_⟩, fun b ⟨i, hi⟩ => ⟨i, oaB i b hi⟩⟩
  · rcases wbA_get (ks := ks) (xs := xs) (ps := ps') (lt hp) l1 l' with ⟨b, p', e1, e2, e3, e4⟩ | ⟨hn, e⟩
    · rw [hp] at e4
      cases e4
      obtain ⟨_, v, _, _, _, hv, ho, sl⟩ := chg e1 e2 e3
      exact ⟨v, hv, .of_own ho sl⟩
    · rw [e] at hp
      obtain ⟨v, hv, sl⟩ := s.slot i p hp
      refine ⟨v, hv, sl.mono fr (fun b e m hk => ?_) fun b e m hk fb => ?_⟩
      · subst e
        exact notA hn hk hp hv
      · subst e
        have nA := notA hn (fun z => by rw [z] at hk; cases hk) hp hv
        cases q : F' b with
        | none => rfl
        | some u =>
          rcases fr.fgr b (by rw [q]; simp) with w | w | w
          · exact absurd fb w
          · exact absurd w nA
          · exact absurd w (OA.there s ⟨i, hk, ⟨p, hp, m⟩, hv⟩).1
  · have hp0 : ∃ q, ρ[j]? = some (some q) := by
      rcases wbA_get (ks := ks) (xs := xs) (ps := ps') (lt hp) l1 l' with ⟨b, p', e1, e2, e3, _⟩ | ⟨_, e⟩
      · obtain ⟨q, _, _, _, hq, _⟩ := chg e1 e2 e3
        exact ⟨q, hq⟩
      · exact ⟨p, by rw [← e]; exact hp⟩
    obtain ⟨q, hq⟩ := hp0
    exact s.dis i j a q ne (oaB i a ho) hk hq hs
  · by_cases hl : i < ρ.length
    · rcases wbA_get (ks := ks) (xs := xs) (ps := ps') hl l1 l' with ⟨b, p', e1, e2, e3, e4⟩ | ⟨hn, e⟩
      · obtain ⟨_, _, _, _, _, _, ho, _⟩ := chg e1 e2 e3
        rw [hi] at ho; cases ho
      · exact e
    · rw [List.getElem?_eq_none (by rw [wl]; omega), List.getElem?_eq_none (by omega)]

def tArg (O : List Kd) (ks : List Kd) (as : List AF) : TA := fun σ H Q => ∃ F ρ xs ρ', StOk O ρ σ H F ∧ evA as ρ = some (xs, ρ') ∧ ∀ vs H' F', PoE O ρ σ H F ρ' H' F' → ArgsOk O ρ' σ H' F' ks xs vs → Q vs H'
abbrev RAs (X : Cx) (O : List Kd) (ks : List Kd) (es : List Expr) (as : List AF) : Prop := PA X es (tArg O ks as)
section
variable {X : Cx} {O : List Kd} {m : Bool} {a : Expr} {es : List Expr} {fa : EF} {ks : List Kd} {as : List AF} {pos : Pos}
theorem ras_nil : RAs X O [] [] [] := pa_imp pa_nil fun σ H Q ⟨F, ρ, p, ρ', st, hf, k⟩ => by
  cases hf
  exact k [] H F (PoE.refl st) trivial
/-- a value -/
theorem ras_e (ha : RE X O m a fa) (hr : RAs X O ks es as) (hs : starEach (a :: es) X.env = (false, eval a X.env) :: starEach es X.env := by rfl) : RAs X O (.fr :: ks) (a :: es) (.ex fa :: as) :=
  pa_imp (pa_cons (re_dn ha) hr hs) fun σ H Q ⟨F, ρ, p, ρ', st, hf, k⟩ => by
    obtain ⟨⟨x, ρ1⟩, h1, hf⟩ := bind_some hf
    obtain ⟨⟨y, ρ2⟩, h2, hf⟩ := bind_some hf
    cases hf
    exact ⟨F, ρ, x, ρ1, st, h1, fun v H1 F1 po rs => ⟨F1, ρ1, y, ρ2, po.st, h2, fun vs H2 F2 po2 rs2 => k _ H2 F2 (po.trans po2) ⟨.inl ⟨rfl, (res_f rs).mono po2.fr.ex⟩, rs2⟩⟩⟩
/-- a value that is read alone -/
theorem ras_r (ha : RR X O none a fa) (hr : RAs X O ks es as) (hs : starEach (a :: es) X.env = (false, eval a X.env) :: starEach es X.env := by rfl) : RAs X O (.lk :: ks) (a :: es) (.ex fa :: as) :=
  pa_imp (pa_cons ha hr hs) fun σ H Q ⟨F, ρ, p, ρ', st, hf, k⟩ => by
    obtain ⟨⟨x, ρ1⟩, h1, hf⟩ := bind_some hf
    obtain ⟨⟨y, ρ2⟩, h2, hf⟩ := bind_some hf
    cases hf
    exact ⟨F, ρ, x, ρ1, st, h1, fun v H1 F1 po rs => ⟨F1, ρ1, y, ρ2, po.st, h2, fun vs H2 F2 po2 rs2 => k _ H2 F2 (po.trans po2) ⟨.inr ⟨rfl, RdOk.stay2 rs po2⟩, rs2⟩⟩⟩
/-- a name's thing, read alone -/
theorem ras_l (j : Nat) {x : Str} {p : Pos} (hr : RAs X O ks es as) (hN : X.N[j]? = some x := by rfl) (hv : Vis X.env.scope x := by first | exact Or.inl rfl | exact Or.inr (Or.inl rfl) | exact Or.inr (Or.inr rfl)) (hd : (x == ("__debug__" : Str)) = false := by decide)
    (hcd : (x == ("__classdict__" : Str)) = false := by decide) (hs : starEach (.Name x p :: es) X.env = (false, eval (.Name x p) X.env) :: starEach es X.env := by rfl) : RAs X O (.lk :: ks) (.Name x p :: es) (.sl j :: as) :=
  pa_imp (pa_cons (pe_var hN hv hd hcd) hr hs) fun σ H Q ⟨F, ρ, p, ρ', st, hf, k⟩ => by
    obtain ⟨⟨x, ρ1⟩, h1, hf⟩ := bind_some hf
    obtain ⟨⟨y, ρ2⟩, h2, hf⟩ := bind_some hf
    cases hf
    obtain ⟨hp, rfl⟩ := eV_some h1
    obtain ⟨v, hv, _⟩ := st.slot j x hp
    exact ⟨v, hv, F, ρ1, y, ρ2, st, h2, fun vs H2 F2 po2 rs2 => k _ H2 F2 po2 ⟨⟨hv, .inl rfl⟩, rs2⟩⟩
/-- a name's thing that is changed -/
theorem ras_i (j : Nat) {x : Str} {p : Pos} (hr : RAs X O ks es as) (hk : (kd O j).own = true := by rfl) (hN : X.N[j]? = some x := by rfl) (hv : Vis X.env.scope x := by first | exact Or.inl rfl | exact Or.inr (Or.inl rfl) | exact Or.inr (Or.inr rfl)) (hd : (x == ("__debug__" : Str)) = false := by decide)
    (hcd : (x == ("__classdict__" : Str)) = false := by decide) (hs : starEach (.Name x p :: es) X.env = (false, eval (.Name x p) X.env) :: starEach es X.env := by rfl) : RAs X O (.io :: ks) (.Name x p :: es) (.sl j :: as) :=
  pa_imp (pa_cons (pe_var hN hv hd hcd) hr hs) fun σ H Q ⟨F, ρ, p, ρ', st, hf, k⟩ => by
    obtain ⟨⟨x, ρ1⟩, h1, hf⟩ := bind_some hf
    obtain ⟨⟨y, ρ2⟩, h2, hf⟩ := bind_some hf
    cases hf
    obtain ⟨hp, rfl⟩ := eV_some h1
    obtain ⟨v, hv, _⟩ := st.slot j x hp
    exact ⟨v, hv, F, ρ1, y, ρ2, st, h2, fun vs H2 F2 po2 rs2 => k _ H2 F2 po2 ⟨⟨hv, .inr ⟨rfl, hk⟩⟩, rs2⟩⟩
theorem re_call {fn : PFn} {x : Str} {p : Pos} {kk : Nat} {f : Addr} {fd : FuncData} {pn : List Str} (G : FnOk X.prog X.w X.K X.mg X.base CX0 kk f fd pn (spF ks m fn)) (hr : Room kk X.A) (hm : X.mg x = some (.ref f)) (hkp : PySem.W.keepIn X.K (.ref f) = true) (hb : Binds X.K fd pn [])
    (ha : RAs X O ks (a :: es) as) (ok : okKs ks = true := by rfl) (hds : dsj ks (as.map AF.s) = true := by rfl) (hg : Gl X x := by rfl) (hdb : (x == ("__debug__" : Str)) = false := by decide) (he : starEach (a :: es) X.env = (false, eval a X.env) :: starEach es X.env := by rfl) (hpl : (backTo pos (starEach es X.env)).any (·.1) = false := by rfl) :
    RE X O m (.Call (.Name x p) (a :: es) [] pos) (eCall ks fn as) :=
  pe_imp (pe_call G hr hg hm hkp hb .nil pass0 ha hdb he hpl) fun σ H Q ⟨F, ρ, p, ρ', st, hf, k⟩ => by
    obtain ⟨⟨xs, ρ1⟩, h1, hf⟩ := bind_some hf
    obtain ⟨ps, h2, hf⟩ := bind_some hf
    obtain ⟨⟨r, ps'⟩, h3, hf⟩ := bind_some hf
    cases hf
    have hd : dsj ks (xs.map xs_s) = true := by rw [evA_s h1]; exact hds
    refine ⟨F, ρ, xs, ρ1, st, h1, fun vs H1 F1 po ao => ?_⟩
    obtain ⟨sm, _⟩ := ao.mini po.st h2 hd
    obtain ⟨l1, l2, _⟩ := ao.at
    obtain ⟨l3, _⟩ := rsA_at h2
    have l1' : xs.length = ks.length := l1
    have l3' : ps.length = xs.length := l3
    refine ⟨F1, ps, r, ps', by rw [List.append_nil]; exact l2, by omega, by rw [List.append_nil]; exact sm, h3, ?_⟩
    rw [List.append_nil]
    intro v H' F' fr l' st' rs
    obtain ⟨po2, ob⟩ := PoE.call po.st ao h2 hd ok fr l' st'
    refine k v H' F' (po.trans po2) ?_
    rcases rs with h | ⟨e, mm, b, o, e1, r', f0, c, n0, n⟩
    · exact .inl h
    · refine .inr ⟨e, mm, b, o, e1, r', f0, c, po.fr.back n0, fun z => ?_⟩
      exact ((ob b z).there po.st).1 n0
end
end Pv

/-! Pv12: dict comprehensions, get, ranges with a step, sorted, sets. -/
noncomputable section
namespace Pv
open PySem PySem.Spec PyProof.Rows L2

section
variable {X : Cx} {O O1 O' Ob : List Kd} {m m' m2 : Bool} {r ra rb rc : Option Nat} {tg a b c : Expr} {fa fb fc : EF} {pos : Pos}
def dcL (g : GF) (tt : TF) (te tv : EF) (vs : List Nat) : List PV → Env → List (Key × PV) → Option (List (Key × PV) × Env)
  | [], ρ, acc => some (acc, ρ)
  | p :: ps, ρ, acc => (g p ρ).bind fun ρ1 => (tt ρ1).bind fun b => if b.1 then (te b.2).bind fun y => (tv y.2).bind fun z => (key1 y.1).bind fun k => dcL g tt te tv vs ps (wipeP z.2 vs) (putP acc k z.1) else dcL g tt te tv vs ps (wipeP b.2 vs) acc
def eDc (fi : LF) (g : GF) (tt : TF) (te tv : EF) (vs : List Nat) : EF := fun ρ => (fi ρ).bind fun x => (dcL g tt te tv vs x.1 (wipeP x.2 vs) []).bind fun r => some (.dct r.1, restP x.2 r.2 vs)
variable {fi : LF} {gf : GF} {tt : TF} {te tv : EF} {vs : List Nat}
theorem imp_dc (hv : vsFr O vs = true) : ∀ σ H Q, tE O true (eDc fi gf tt te tv vs) σ H Q → tDc (tI O r fi) (tG (lockO r O) vs gf) (tT (lockO r O) tt) (tE (lockO r O) false te) (tE (lockO r O) false tv) vs σ H Q := fun σ H Q ⟨F, ρ, p, ρ', s, hf, k⟩ => by
  have hf0 : (fi ρ).bind (fun x => (dcL gf tt te tv vs x.1 (wipeP x.2 vs) []).bind fun r => some (PV.dct r.1, restP x.2 r.2 vs)) = some (p, ρ') := hf
  obtain ⟨⟨ps, ρ1⟩, e1, hf⟩ := bind_some hf0
  obtain ⟨⟨out, ρf⟩, e2, hf⟩ := bind_some hf
  cases hf
  have hvL : vsFr (lockO r O) vs = true := by
    refine List.all_eq_true.mpr fun i hi => decide_eq_true ?_
    rcases lockO_kd r O i with e | ⟨_, _, e⟩
    · rw [e]; exact vsFr_at hv hi
    · rw [vsFr_at hv hi] at e; cases e
  refine ⟨F, ρ, ps, ρ1, s, e1, fun J H1 F1 po wk hz D hD => ?_⟩
  have sL := (po.st.lock r).wipe vs
  have hDF : F1 D = none := po.st.sub.nil hD
  let OL := lockO r O
  -- what holds ahead of turn i
  let St := fun (i : Nat) (H2 : Hp) => ∃ F2 ρ2 acc accp, StOk OL ρ2 (wipe σ vs) H2 F2 ∧ Frm (OA OL (wipeP ρ1 vs) (wipe σ vs)) H1 F1 H2 F2 (OA OL ρ2 (wipe σ vs)) ∧ EK OL (wipeP ρ1 vs) ρ2 ∧ wipeP ρ2 vs = ρ2 ∧
    H2 D = some (.dK acc) ∧ F2 D = none ∧ ¬ OA OL ρ2 (wipe σ vs) D ∧ RepK F2 accp acc ∧ accp.length ≤ i ∧ dcL gf tt te tv vs (ps.drop i) ρ2 accp = some (out, ρf)
  have wipe2 : ∀ (ρ : Env), wipeP (wipeP ρ vs) vs = wipeP ρ vs := fun ρ => by
    apply List.ext_getElem?
    intro i
    rw [wipeP_get, wipeP_get]
    by_cases m : i ∈ vs
    · rw [if_pos m, if_pos m]; cases ρ[i]? <;> rfl
    · rw [if_neg m, if_neg m]
  refine ⟨fun i n H2 => n = ps.length - i ∧ i ≤ ps.length ∧ St i H2, ⟨ps.length, by simp, Nat.zero_le _, F1, wipeP ρ1 vs, [], [], sL.new hD, Frm.new hD, EK.refl _ _, wipe2 _, upd_same, hDF, fun z => (z.there sL).1 hD, .nil, Nat.le_refl _, e2⟩, ?_⟩
  rintro i n H2 ⟨rfl, hle, F2, ρ2, acc, accp, st2, fr2, ek2, w2, hD2, fD2, nA2, rp2, hl2, hlc⟩
  have nDlk : ∀ {ρ2 : Env}, EK OL (wipeP ρ1 vs) ρ2 → ¬ OA OL ρ2 (wipe σ vs) D → ∀ j b q, kd OL j ≠ .fr → ρ2[j]? = some (some q) → (wipe σ vs)[j]? = some (some (.ref b)) → isM q = true → b ≠ D := fun {ρ2} ek2 nA2 j b q hk hq hs m => by
    rintro rfl
    by_cases ho : (kd OL j).own = true
    · exact nA2 ⟨j, ho, ⟨q, hq, m⟩, hs⟩
    · have hq0 : (wipeP ρ1 vs)[j]? = some (some q) := by rw [← ek2.2 j (by simpa using ho)]; exact hq
      obtain ⟨v, hv', sl⟩ := sL.slot j q hq0
      rw [hs] at hv'; cases hv'
      exact sl.at sL.sub hD
  obtain ⟨wk1, wk2⟩ := wk H2 F2 _ (fr2.iff (fun a => OA.wipe hvL) fun _ => Iff.rfl) st2.sub
  by_cases hlt : i < ps.length
  · obtain ⟨p, hp⟩ : ∃ p, ps[i]? = some p := ⟨_, List.getElem?_eq_getElem hlt⟩
    rw [drop_get hp] at hlc
    obtain ⟨ρ3, e3, hlc⟩ := bind_some hlc
    obtain ⟨⟨b, ρ4⟩, e4, hlc⟩ := bind_some hlc
    obtain ⟨g1, g2⟩ := wk1 i p hp
    refine .inr ⟨g1, St (i + 1), fun H' h' => ⟨ps.length - (i + 1), by omega, rfl, hlt, h'⟩, fun v H3 hy => ?_⟩
    obtain ⟨rfl, rv⟩ := g2 v H3 hy
    refine ⟨F2, ρ2, p, ρ3, st2, rv, e3, fun σ3 z so hlen => ⟨?_, F2, ρ3, b, ρ4, z.st, e4, fun H4 F4 po4 => ?_⟩⟩
    · apply List.ext_getElem?
      intro j
      rw [wipe_getV, wipe_getV]
      by_cases mj : j ∈ vs
      · rw [if_pos mj, if_pos mj]
        have hl3 : σ3.length = σ.length := by rw [hlen, wipe_length]
        by_cases lj : j < σ.length
        · rw [List.getElem?_eq_getElem (by omega), List.getElem?_eq_getElem lj]; rfl
        · rw [List.getElem?_eq_none (by omega), List.getElem?_eq_none (by omega)]
      · rw [if_neg mj, if_neg mj, (so j mj).1, wipe_getV, if_neg mj]
    · -- behind the test: the names of the block forgotten again
      have wσ : wipe σ3 vs = wipe σ vs := by
        apply List.ext_getElem?
        intro j
        rw [wipe_getV, wipe_getV]
        by_cases mj : j ∈ vs
        · rw [if_pos mj, if_pos mj]
          have hl3 : σ3.length = σ.length := by rw [hlen, wipe_length]
          by_cases lj : j < σ.length
          · rw [List.getElem?_eq_getElem (by omega), List.getElem?_eq_getElem lj]; rfl
          · rw [List.getElem?_eq_none (by omega), List.getElem?_eq_none (by omega)]
        · rw [if_neg mj, if_neg mj, (so j mj).1, wipe_getV, if_neg mj]
      have y4 := z.trans po4.s
      -- from a state of the block to the next turn
      have back : ∀ {ρ5 H5 F5}, PoS OL OL ρ2 (wipe σ vs) H3 F2 ρ5 σ3 H5 F5 → EK OL ρ3 ρ5 →
          StOk OL (wipeP ρ5 vs) (wipe σ vs) H5 F5 ∧ Frm (OA OL ρ2 (wipe σ vs)) H3 F2 H5 F5 (OA OL (wipeP ρ5 vs) (wipe σ vs)) ∧ EK OL (wipeP ρ1 vs) (wipeP ρ5 vs) ∧ H5 D = some (.dK acc) ∧ F5 D = none ∧ ¬ OA OL (wipeP ρ5 vs) (wipe σ vs) D := fun {ρ5 H5 F5} y ek5 => by
        have s5 := y.st.wipe vs
        rw [wσ] at s5
        have e5 : ∀ a, OA OL ρ5 σ3 a ↔ OA OL (wipeP ρ5 vs) (wipe σ vs) a := fun a => by
          rw [← wσ]
          exact (OA.wipe hvL).symm
        have fr5 := y.fr.iff (fun _ => Iff.rfl) e5
        have hD5 := fr5.keep D _ hD2 nA2
        refine ⟨s5, fr5, ⟨?_, fun j hj => ?_⟩, hD5, ?_, fun h => ?_⟩
        · rw [wipeP_length, wipeP_length, ek5.1]
          have := z.st.len
          rw [this, hlen, wipe_length]
          have q := po.st.len
          omega
        · rw [wipeP_get]
          by_cases mj : j ∈ vs
          · rw [if_pos mj, wipeP_get, if_pos mj]
            have q1 := z.st.len
            have q2 := po.st.len
            have q3 := ek5.1
            rw [hlen, wipe_length] at q1
            by_cases lj : j < ρ1.length
            · rw [List.getElem?_eq_getElem lj, List.getElem?_eq_getElem (by omega)]; rfl
            · rw [List.getElem?_eq_none (show ρ1.length ≤ j by omega), List.getElem?_eq_none (by omega)]
          · rw [if_neg mj, ek5.2 j hj, (so j mj).2, ek2.2 j hj]
        · cases q : F5 D with
          | none => rfl
          | some u =>
            rcases fr5.fgr D (by rw [q]; simp) with w | w | w
            · exact absurd fD2 w
            · exact absurd w nA2
            · rw [hD2] at w; cases w
        · rcases fr5.asub D h with w | w
          · exact nA2 w
          · rw [hD2] at w; cases w
      cases b with
      | false =>
        obtain ⟨s5, f5, k5, d5, fd5, n5⟩ := back y4 po4.ek
        exact iteF ⟨F4, wipeP ρ4 vs, acc, accp, s5, fr2.trans f5, k5, wipe2 _, d5, fd5, n5, rp2.mono f5.ex, by omega, hlc⟩
      | true =>
        obtain ⟨⟨q, ρ5⟩, e5, hlc⟩ := bind_some hlc
        obtain ⟨⟨q2, ρ6⟩, e6, hlc⟩ := bind_some hlc
        obtain ⟨kk, ek, hlc⟩ := bind_some hlc
        refine iteT ⟨F4, ρ4, q, ρ5, po4.st, e5, fun v5 H5 F5 po5 rs5 => ⟨F5, ρ5, q2, ρ6, po5.st, e6, fun v6 H6 F6 po6 rs6 => ?_⟩⟩
        have y5 := (y4.trans po5.s).trans po6.s
        obtain ⟨s5, f5, k5, d5, fd5, n5⟩ := back y5 ((po4.ek.trans po5.ek).trans po6.ek)
        have rep6 := res_f rs6
        have racc := rp2.mono f5.ex
        refine ⟨acc, kk, key1_rdv (F := F5) (H := H5) ek (.inl (res_f rs5)), d5, ?_, F6, wipeP ρ6 vs, putK acc kk v6, putP accp kk q2, ?_, ?_, k5, wipe2 _, upd_same, fd5, n5, racc.put rep6, ?_, hlc⟩
        · rw [← racc.length]; omega
        · exact s5.grow fd5 (nDlk k5 n5)
        · exact (fr2.trans f5).grow hD
        · have := putP_len accp kk q2; omega
  · have e : i = ps.length := by omega
    subst e
    rw [List.drop_length] at hlc
    cases hlc
    refine .inl ⟨wk2, ?_⟩
    have notv : ∀ {j}, kd OL j ≠ .fr → j ∉ vs := fun {j} hk z => hk (vsFr_at hvL z)
    have hlen : ρf.length = ρ1.length := by rw [ek2.1, wipeP_length]
    have hr : ∀ j, j ∉ vs → (restP ρ1 ρf vs)[j]? = ρf[j]? := fun j nj => by rw [restP_get hlen, if_neg nj]
    have hs : ∀ j, j ∉ vs → (wipe σ vs)[j]? = σ[j]? := fun j nj => by rw [wipe_getV, if_neg nj]
    have oa : ∀ a, OA OL (restP ρ1 ρf vs) σ a ↔ OA OL ρf (wipe σ vs) a := fun a => by
      constructor
      · rintro ⟨j, h1, ⟨q, h2, mq⟩, h3⟩
        have nj := notv (j := j) (fun z => by rw [z] at h1; cases h1)
        exact ⟨j, h1, ⟨q, by rw [← hr j nj]; exact h2, mq⟩, by rw [hs j nj]; exact h3⟩
      · rintro ⟨j, h1, ⟨q, h2, mq⟩, h3⟩
        have nj := notv (j := j) (fun z => by rw [z] at h1; cases h1)
        exact ⟨j, h1, ⟨q, by rw [hr j nj]; exact h2, mq⟩, by rw [← hs j nj]; exact h3⟩
    have fr3 := fr2.iff (fun a => OA.wipe hvL) fun a => (oa a).symm
    have stL := po.st.lock r
    have st3 : StOk OL (restP ρ1 ρf vs) σ H2 F2 := by
      refine ⟨st2.sub, by rw [restP_length, hlen]; exact po.st.len, fun j q hq => ?_, fun i j a q ne ho hk hp hs' => ?_⟩
      · by_cases mj : j ∈ vs
        · rw [restP_get hlen, if_pos mj] at hq
          obtain ⟨v, hv', sl⟩ := stL.slot j q hq
          refine ⟨v, hv', ?_⟩
          have hk : kd OL j = .fr := vsFr_at hvL mj
          have hk' : kd (lockO r O) j = .fr := hk
          rw [hk'] at sl
          rw [hk]
          exact Rep.mono fr2.ex sl
        · rw [hr j mj] at hq
          obtain ⟨v, hv', sl⟩ := st2.slot j q hq
          exact ⟨v, by rw [← hs j mj]; exact hv', sl⟩
      · have ni := notv (j := i) (fun z => by have := ho.1; rw [z] at this; cases this)
        have nj := notv (j := j) hk
        rw [hr j nj] at hp
        obtain ⟨h1, ⟨q2, h2, mq⟩, h3⟩ := ho
        rw [hr i ni] at h2
        exact st2.dis i j a q ne ⟨h1, ⟨q2, h2, mq⟩, by rw [hs i ni]; exact h3⟩ hk hp (by rw [hs j nj]; exact hs')
    have ek3 : EK OL ρ1 (restP ρ1 ρf vs) := by
      refine ⟨by rw [restP_length, hlen], fun j hj => ?_⟩
      by_cases mj : j ∈ vs
      · rw [restP_get hlen, if_pos mj]
      · rw [hr j mj, ek2.2 j hj, wipeP_get, if_neg mj]
    have pe : PoE OL ρ1 σ H1 F1 (restP ρ1 ρf vs) H2 F2 := ⟨st3, fr3, ek3⟩
    have pe2 := po.trans (pe.unlock po.st)
    refine k (.ref D) H2 F2 pe2 (.inr ⟨rfl, rfl, D, _, rfl, hD2, fD2, ?_, po.fr.back hD, fun z => ?_⟩)
    · exact .dct rp2 (Nat.le_trans hl2 hz)
    · -- D is nobody's: neither behind the lock
      obtain ⟨j, h1, ⟨q, h2, mq⟩, h3⟩ := z
      have hkf : kd OL j ≠ .fr := fun z => by
        rcases lockO_kd r O j with e | ⟨_, e, _⟩
        · have z' : kd (lockO r O) j = .fr := z
          rw [← e, z'] at h1; cases h1
        · have z' : kd (lockO r O) j = .fr := z
          rw [z'] at e; cases e
      have nj := notv hkf
      rw [hr j nj] at h2
      exact nDlk ek2 nA2 j D q hkf h2 (by rw [hs j nj]; exact h3) mq rfl
theorem re_dc {kx vx iter : Expr} {ifs : List Expr} {scope : Scope} {own : List (Str × Nat)} {fi : LF} {gf : GF} {tt : TF} {te tv : EF} (hN : X.N.Nodup) (hi : RI X O r tg iter fi) (ok : BlkOk X.N X.env.scope scope own) (hv : vsFr O (own.map (·.2)) = true)
    (hg : ∀ (s : Shared) (H : Hp) (C : Addr) (cl : List (Str × Addr)) (fp : List Addr), RG (X.blk s H scope (compEnvC scope cl C X.env) fp) (lockO r O) (own.map (·.2)) tg gf) (ht : ∀ (s : Shared) (H : Hp) (C : Addr) (cl : List (Str × Addr)) (fp : List Addr), RTs (X.blk s H scope (compEnvC scope cl C X.env) fp) (lockO r O) ifs tt)
    (hk : ∀ (s : Shared) (H : Hp) (C : Addr) (cl : List (Str × Addr)) (fp : List Addr), RE (X.blk s H scope (compEnvC scope cl C X.env) fp) (lockO r O) false kx te)
    (he : ∀ (s : Shared) (H : Hp) (C : Addr) (cl : List (Str × Addr)) (fp : List Addr), RE (X.blk s H scope (compEnvC scope cl C X.env) fp) (lockO r O) false vx tv) (hc : X.calm = true := by rfl) (hs : ∀ x, foldedSetIterable iter X.env x = pure x := by intro _; rfl) :
    RE X O true (.DictComp kx vx [⟨tg, iter, ifs, 0⟩] scope pos) (eDc fi gf tt te tv (own.map (·.2))) :=
  pe_imp (pe_dc hc hN hi ok hg ht hk he hs) (imp_dc hv)

/-! d.get(k, x) -/
def eGet2 (f g h : EF) : EF := fun ρ => (f ρ).bind fun x => (g x.2).bind fun y => (h y.2).bind fun z => (pDget x.1 y.1).bind fun o => some (o.getD z.1, z.2)
def eGet1 (f g : EF) : EF := fun ρ => (f ρ).bind fun x => (g x.2).bind fun y => (pDget x.1 y.1).bind fun o => some (o.getD .non, y.2)
theorem isD_rdv {p q : PV} {o : Option PV} {v : V} {H F : Hp} (s : Sub F H) (h : pDget p q = some o) (hp : RdV p v H F) : ∃ a, v = .ref a ∧ IsD H a := by
  cases p <;> simp [pDget] at h
  · obtain ⟨a, vs, rfl, ha, rs, _⟩ := rdv_dct s hp
    exact ⟨a, rfl, .inl ⟨_, ha⟩⟩
  · obtain ⟨a, vs, rfl, ha, rs, _⟩ := rdv_dtt s hp
    exact ⟨a, rfl, .inr ⟨_, ha⟩⟩
theorem re_dget2 {apos cpos : Pos} {o e f : Expr} (ho : RR X O ra o fa) (he : RE X (lockO ra O) m e fb) (hf : RE X (lockO ra O) m2 f fc) (hu : X.A.units + 1 < cLine) (mm : M2 X o "get" apos e f cpos := by exact ⟨rfl, rfl, rfl, rfl⟩) :
    RE X O false (.Call (.Attribute o "get" apos) [e, f] [] cpos) (eGet2 fa fb fc) :=
  pe_imp (pe_dget2 hu ho (re_dn he) (re_dn hf) mm) fun σ H Q ⟨F, ρ, p, ρ', st, hf, k⟩ => by
    obtain ⟨⟨x, ρ1⟩, h1, hf⟩ := bind_some hf
    obtain ⟨⟨y, ρ2⟩, h2, hf⟩ := bind_some hf
    obtain ⟨⟨z, ρ3⟩, h3, hf⟩ := bind_some hf
    obtain ⟨o, h4, hf⟩ := bind_some hf
    cases hf
    refine ⟨F, ρ, x, ρ1, st, h1, fun v1 H1 F1 po1 rd1 => ?_⟩
    obtain ⟨a, rfl, hd⟩ := isD_rdv po1.st.sub h4 rd1.val
    refine ⟨a, rfl, hd, F1, ρ1, y, ρ2, po1.st.lock _, h2, fun v2 H2 F2 po2 rs2 => ⟨F2, ρ2, z, ρ3, po2.st, h3, fun v3 H3 F3 po3 rs3 => ?_⟩⟩
    have po23 := po2.trans po3
    obtain ⟨a', w, e, g, w1, w2⟩ := dget_rdv po3.st.sub h4 (rd1.stay po23.fr) (.inl ((res_f rs2).mono po3.fr.ex))
    cases e
    refine ⟨w, g, k _ H3 F3 (po1.trans (po23.unlock po1.st)) (.inl ⟨?_, fun z => nomatch z⟩)⟩
    cases o with
    | none => rw [w2 rfl]; exact res_f rs3
    | some q =>
      obtain ⟨u, hu, ru⟩ := w1 q rfl
      rw [hu]; exact ru
theorem re_dget1 {apos cpos : Pos} {o e : Expr} (ho : RR X O ra o fa) (he : RE X (lockO ra O) m e fb) (hu : X.A.units + 1 < cLine) (mm : M1 X o "get" apos e cpos := by exact ⟨rfl, rfl, rfl, rfl⟩) :
    RE X O false (.Call (.Attribute o "get" apos) [e] [] cpos) (eGet1 fa fb) :=
  pe_imp (pe_dget1 hu ho (re_dn he) mm) fun σ H Q ⟨F, ρ, p, ρ', st, hf, k⟩ => by
    obtain ⟨⟨x, ρ1⟩, h1, hf⟩ := bind_some hf
    obtain ⟨⟨y, ρ2⟩, h2, hf⟩ := bind_some hf
    obtain ⟨o, h4, hf⟩ := bind_some hf
    cases hf
    refine ⟨F, ρ, x, ρ1, st, h1, fun v1 H1 F1 po1 rd1 => ?_⟩
    obtain ⟨a, rfl, hd⟩ := isD_rdv po1.st.sub h4 rd1.val
    refine ⟨a, rfl, hd, F1, ρ1, y, ρ2, po1.st.lock _, h2, fun v2 H2 F2 po2 rs2 => ?_⟩
    obtain ⟨a', w, e, g, w1, w2⟩ := dget_rdv po2.st.sub h4 (rd1.stay po2.fr) (.inl (res_f rs2))
    cases e
    refine ⟨w, g, k _ H2 F2 (po1.trans (po2.unlock po1.st)) (.inl ⟨?_, fun z => nomatch z⟩)⟩
    cases o with
    | none => rw [w2 rfl]; exact .non
    | some q =>
      obtain ⟨u, hu, ru⟩ := w1 q rfl
      rw [hu]; exact ru

/-! range(a, b, c) -/
def rg3B (i j c : Int) : Bool := decide (c ≠ 0 ∧ c.natAbs < 1073741824) && Builtin.Range.small i j c && decide (Builtin.Range.rangeSize i j c ≤ LIM)
def iRg3 (a b c : EF) : LF := fun ρ => (a ρ).bind fun x => (b x.2).bind fun y => (c y.2).bind fun z => match x.1, y.1, z.1 with
  | .int i, .int j, .int k => if rg3B i j k then some (rgC i k (Builtin.Range.rangeSize i j k).toNat, z.2) else none
  | _, _, _ => none
theorem ri_rg3 {p : Pos} {m3 : Bool} (hm : X.mg "range" = none) (h1 : RE X O m a fa) (h2 : RE X O m2 b fb) (h3 : RE X O m3 c fc) (hg : Gl X "range" := by rfl)
    (hs : starEach [a, b, c] X.env = (false, eval a X.env) :: starEach [b, c] X.env := by rfl) (hs2 : starEach [b, c] X.env = (false, eval b X.env) :: starEach [c] X.env := by rfl) (hs3 : starEach [c] X.env = (false, eval c X.env) :: starEach [] X.env := by rfl) (hpl : (backTo pos (starEach [b, c] X.env)).any (·.1) = false := by rfl) :
    RI X O none tg (.Call (.Name "range" p) [a, b, c] [] pos) (iRg3 fa fb fc) :=
  pi_imp (pi_range3 hg hm (pa_cons h1 (pa_cons h2 (pa_cons h3 pa_nil hs3) hs2) hs) hs hpl) fun σ H Q ⟨F, ρ, ps, ρ', s, hf, k⟩ => by
    obtain ⟨⟨x, ρ1⟩, e1, hf⟩ := bind_some hf
    obtain ⟨⟨y, ρ2⟩, e2, hf⟩ := bind_some hf
    obtain ⟨⟨z, ρ3⟩, e3, hf⟩ := bind_some hf
    cases x with
    | int i => cases y with
      | int j => cases z with
        | int l =>
          obtain ⟨hb, hf⟩ := ite_some hf
          cases hf
          have hb' : (decide (l ≠ 0 ∧ l.natAbs < 1073741824) && Builtin.Range.small i j l && decide (Builtin.Range.rangeSize i j l ≤ LIM)) = true := hb
          simp only [Bool.and_eq_true, decide_eq_true_eq] at hb'
          obtain ⟨⟨⟨c0, c1⟩, c2⟩, c3⟩ := hb'
          have hn := PyProof.Rows.rangeSize_toNat i j l
          refine ⟨F, ρ, _, _, s, e1, fun v H' F' po rs => ⟨F', _, _, _, po.st, e2, fun v' H2 F2 po2 rs2 => ⟨F2, _, _, _, po2.st, e3, fun v3 H3 F3 po3 rs3 => ⟨_, _, _, _, by rw [res_int rs, res_int rs2, res_int rs3], ⟨c0, c1, c2, hn⟩, k _ H3 F3 ((po.trans po2).trans po3) walk_rgC ?_⟩⟩⟩⟩
          rw [rgC_len]
          refine lim_ok ?_
          rw [hn] at c3
          exact Int.ofNat_le.mp c3
        | _ => cases hf
      | _ => cases hf
    | _ => cases hf
end
end Pv

/-! Pv13: sorted, sets. set_lstI follows the library's proof for a tuple. -/
noncomputable section
namespace Pv
open PySem PySem.Spec PyProof.Rows L2

section
variable {P : Program} {w : World} {A : Around} {E : Value → Shared → Prop} {s : Shared}
set_option maxRecDepth 100000 in
set_option maxHeartbeats 3200000 in
theorem set_lstI {l : Addr} {items : Array Value} (ns : List Int) {Q : Value → Shared → Prop} (hh : A.handled = none) (hl : s.heap.IsList l items) (hit : IntsAre items.toList ns) (hb : ns.length + 1 < scanBound)
    (h : ∀ (h' : Heap) (tk c : Nat), SetR w h' s.heap.objs.size (fun j => decide (j ∈ ns)) c → c ≤ ns.length → (∀ b o, s.heap.get? b = some o → h'.get? b = some o) → Q (.ref s.heap.objs.size) { s with heap := h', toks := tk }) :
    wpAny (model P w) A (call (.type "set") [.ref l]) Q E s := by
  have hisz : items.size = ns.length := by
    have q := IntsAre.length hit
    rw [Array.length_toList] at q
    exact q
  obtain ⟨c, tl, hmro⟩ := F.called_set.mro
  have hmade := F.called_set.made
  have hsub := F.called_set.sub
  refine wpAny_call (codeAny_of_tree ?_)
  show wpAny _ _ (callAny (.type "set") _) _ _ _
  refine wpAny_pure ⟨Code.quiet_builtin _ (by decide +kernel), codeAny_builtin F.entry_type_call ?_⟩
  rw [Around.under_plain (weight_type_call_type "set" [.ref l] []) rfl]
  have h1 := F.called_set.notType
  have h2 := F.called_set.canCreate
  have hct := F.typeCall_set_1 (.ref l)
  repeat (any_goals (first | assumption | wp_step))

  refine codeAny_mono (code_set_led1 (.ref l) (E := E) (Q₁ := fun obj s₁ => obj = .ref s.heap.objs.size ∧ s₁ = { s with heap := s.heap.push { cls := .type "set", dict := none, data := .set #[] 0 (.fresh 0 0 (!w.params.followText "set-order")) } }) ⟨rfl, rfl⟩) fun r s₁ hr => ?_
  cases r with
  | error e => exact hr
  | ok fl =>
    cases fl with
    | ret obj =>
      obtain ⟨rfl, rfl⟩ := hr
      have hS : (s.heap.push { cls := .type "set", dict := none, data := .set #[] 0 (.fresh 0 0 (!w.params.followText "set-order")) }).get? s.heap.objs.size = some { cls := .type "set", dict := none, data := .set #[] 0 (.fresh 0 0 (!w.params.followText "set-order")) } := Heap.get?_push_size _ rfl
      have hT : Shared.TypeIs { s with heap := s.heap.push { cls := .type "set", dict := none, data := .set #[] 0 (.fresh 0 0 (!w.params.followText "set-order")) } } (.ref s.heap.objs.size) "set" := ⟨_, hS, rfl⟩
      have hli := F.called_set.init.lookup
      have hbi := F.called_set.init.bind (.ref s.heap.objs.size)
      repeat (any_goals (first | assumption | wp_step))

      refine codeAny_mono (codeAny_call_builtin (R := wants (fun r s₂ => r = .none ∧ ∃ h' tk c, s₂ = { s with heap := h', toks := tk } ∧ SetR w h' s.heap.objs.size (fun j => decide (j ∈ ns)) c ∧ c ≤ ns.length ∧
          (∀ b o, s.heap.get? b = some o → h'.get? b = some o)) E) F.called_set.init.plain F.entry_set_init (check_set_init_1 hT ?_)) fun r₂ s₂ hr₂ => ?_
      · obtain ⟨ol, hol, hcl, nl, hdl⟩ := hl
        obtain ⟨ocls, odict, odata, oslots⟩ := ol
        simp only at hcl hdl
        subst hcl; subst hdl
        have hol' : (s.heap.push { cls := .type "set", dict := none, data := .set #[] 0 (.fresh 0 0 (!w.params.followText "set-order")) }).get? l = some { cls := .type "list", dict := odict, data := .seq items nl, slots := oslots } := Heap.get?_push_of_some _ hol
        have hsls := F.sub_list_set
        have hslf := F.sub_list_frozenset
        have hne : (Value.type "list" == Value.type "dict") = false := by decide
        have hl1 : (s.heap.push { cls := .type "set", dict := none, data := .set #[] 0 (.fresh 0 0 (!w.params.followText "set-order")) }).IsList l items := ⟨_, hol', rfl, nl, rfl⟩
        unfold Builtin.«set.__init__» noKeywords Builtin.Frozenset.updateFrom
        generalize hPI : pyIter = PI
        wp_walk
        subst hPI

        refine wpAny_pyIter_list hl1 ?_
        refine wpAny_bind (wpAny_runValue ?_)
        have hlS : l < s.heap.objs.size := Heap.lt_size hol
        have hh3 : A.in1.in1.in1.handled = none := by simp [hh]
        have hz1 : (s.heap.push { cls := .type "set", dict := none, data := .set #[] 0 (.fresh 0 0 (!w.params.followText "set-order")) }).objs.size = s.heap.objs.size + 1 := Heap.size_push ..
        have hneI : l ≠ (s.heap.push { cls := .type "set", dict := none, data := .set #[] 0 (.fresh 0 0 (!w.params.followText "set-order")) }).objs.size := by
          rw [Heap.size_push]; exact Nat.ne_of_lt (Nat.lt_succ_of_lt hlS)
        have hSf : s.heap.objs.size ∉ [(s.heap.push { cls := .type "set", dict := none, data := .set #[] 0 (.fresh 0 0 (!w.params.followText "set-order")) }).objs.size, l] := by
          rw [Heap.size_push]; simp only [List.mem_cons, List.mem_singleton, List.not_mem_nil, or_false, not_or]
          exact ⟨Nat.ne_of_lt (Nat.lt_succ_self _), Nat.ne_of_gt hlS⟩
        have hval : ∀ (i : Nat) (v : Value), items[i]? = some v → ∃ k t, ns[i]? = some k ∧ v = .int k t := fun i v hv => by
          have hi : i < ns.length := by rw [← hisz]; exact (Array.getElem?_eq_some_iff.mp hv).1
          obtain ⟨t, e⟩ := PyProof.Rows.IntsAre.int_at hit i v (by rw [Array.getElem?_toList]; exact hv)
          refine ⟨ns[i], t, List.getElem?_eq_getElem hi, ?_⟩
          rw [e, List.getD_eq_getElem?_getD, List.getElem?_eq_getElem hi] <;> rfl
        refine set_update_ints ((Walks.list hh3 _ l hneI items).toS) s.heap.objs.size
          hSf ns hisz hb hval (items.size - 0) 0 _ (by omega) (Nat.zero_le _)
          ⟨⟨_, Heap.get?_push_size _ rfl, rfl, rfl⟩, (hl1.push _)⟩ ?hS0 ?hR
        case hS0 =>
          have hget : ((s.heap.push { cls := .type "set", dict := none, data := .set #[] 0 (.fresh 0 0 (!w.params.followText "set-order")) }).push { cls := .type "list_iterator", data := .fields #[.ref l, .int 0 0] }).get? s.heap.objs.size
              = some { cls := .type "set", dict := none, data := .set #[] 0 (.fresh 0 0 (!w.params.followText "set-order")) } := Heap.get?_push_of_some _ hS
          exact ⟨0, Nat.le_refl 0, setR_new_at hget⟩
        case hR =>
          intro s' c' hm hc' hS'
          obtain ⟨h', g2, d', tk', os'⟩ := s'
          have eg : g2 = s.gens := hm.gens
          have ed : d' = s.drawn := hm.drawn
          have eo : os' = s.os := hm.os
          subst eg; subst ed; subst eo
          show wpAny _ _ _ _ _ _
          refine wpAny_pure ?_
          show wpAny _ _ (ret Value.none) _ _ _
          rw [hisz] at hc'
          refine wpAny_pure ⟨rfl, h', tk', c', rfl, hS', hc', fun b o e => ?_⟩
          have hb0 : b < s.heap.objs.size := Heap.lt_size e
          have hb1 : b ≠ s.heap.objs.size := Nat.ne_of_lt hb0
          have hb2 : b ≠ (s.heap.push { cls := .type "set", dict := none, data := .set #[] 0 (.fresh 0 0 (!w.params.followText "set-order")) }).objs.size := by
            rw [Heap.size_push]; exact Nat.ne_of_lt (Nat.lt_succ_of_lt hb0)
          exact hm.heap b o (by simp only [List.mem_cons, List.mem_singleton, List.not_mem_nil, or_false, not_or]; exact ⟨hb1, hb2⟩) (Heap.get?_push_of_some _ (Heap.get?_push_of_some _ e))

      · cases r₂ with
        | error e => exact hr₂
        | ok fl₂ =>
          cases fl₂ with
          | ret r =>
            obtain ⟨rfl, h', tk, c', rfl, hS', hc', hk'⟩ := hr₂
            repeat (any_goals (first | assumption | wp_step))
            exact h _ _ _ hS' hc' hk'
          | _ => exact hr₂.elim
    | _ => exact hr.elim

end
end Pv

/-! Pv14: sorted, sets. -/
noncomputable section
namespace Pv
open PySem PySem.Spec PyProof.Rows L2
/-! ### sorted ints -/
def insI (x : Int) : List Int → List Int
  | [] => [x]
  | y :: ys => if x ≤ y then x :: y :: ys else y :: insI x ys
def isort : List Int → List Int
  | [] => []
  | x :: xs => insI x (isort xs)
def insS (x : Int) : List Int → List Int
  | [] => [x]
  | y :: ys => if x < y then x :: y :: ys else if x = y then y :: ys else y :: insS x ys
def sset : List Int → List Int
  | [] => []
  | x :: xs => insS x (sset xs)
theorem insI_perm (x : Int) : ∀ l, (insI x l).Perm (x :: l)
  | [] => .refl _
  | y :: ys => by
    unfold insI
    split
    · exact .refl _
    · exact ((insI_perm x ys).cons y).trans (.swap x y ys)
theorem isort_perm : ∀ l, (isort l).Perm l
  | [] => .refl _
  | x :: xs => (insI_perm x _).trans ((isort_perm xs).cons x)
theorem insI_sorted (x : Int) : ∀ {l : List Int}, l.Pairwise (· ≤ ·) → (insI x l).Pairwise (· ≤ ·)
  | [], _ => List.pairwise_singleton ..
  | y :: ys, h => by
    have h' := List.pairwise_cons.mp h
    unfold insI
    split
    · rename_i c
      refine List.pairwise_cons.mpr ⟨fun z hz => ?_, h⟩
      rcases List.mem_cons.mp hz with e | e
      · rw [e]; exact c
      · exact Int.le_trans c (h'.1 z e)
    · rename_i c
      refine List.pairwise_cons.mpr ⟨fun z hz => ?_, insI_sorted x h'.2⟩
      rcases List.mem_cons.mp ((insI_perm x ys).mem_iff.mp hz) with e | e
      · rw [e]; omega
      · exact h'.1 z e
theorem isort_sorted : ∀ l, (isort l).Pairwise (· ≤ ·)
  | [] => .nil
  | x :: xs => insI_sorted x (isort_sorted xs)
theorem isort_uniq {l m : List Int} (p : m.Perm l) (h : m.Pairwise (· ≤ ·)) : m = isort l :=
  List.Perm.eq_of_pairwise (le := (· ≤ ·)) (fun a b _ _ h1 h2 => Int.le_antisymm h1 h2) h (isort_sorted l) (p.trans (isort_perm l).symm)
theorem mem_insS {x y : Int} : ∀ {l : List Int}, y ∈ insS x l ↔ y = x ∨ y ∈ l
  | [] => by simp [insS]
  | z :: l => by
    unfold insS
    split
    · simp
    · split
      · rename_i e; subst e; simp
      · rw [List.mem_cons, mem_insS, List.mem_cons]
        constructor
        · rintro (h | h | h) <;> simp [h]
        · rintro (h | h | h) <;> simp [h]
theorem mem_sset {y : Int} : ∀ {l : List Int}, y ∈ sset l ↔ y ∈ l
  | [] => Iff.rfl
  | x :: l => by
    unfold sset
    rw [mem_insS, mem_sset, List.mem_cons]
theorem insS_sorted (x : Int) : ∀ {l : List Int}, l.Pairwise (· < ·) → (insS x l).Pairwise (· < ·)
  | [], _ => List.pairwise_singleton ..
  | y :: ys, h => by
    have h' := List.pairwise_cons.mp h
    unfold insS
    split
    · rename_i c
      refine List.pairwise_cons.mpr ⟨fun z hz => ?_, h⟩
      rcases List.mem_cons.mp hz with e | e
      · rw [e]; exact c
      · exact Int.lt_trans c (h'.1 z e)
    · split
      · exact h
      · refine List.pairwise_cons.mpr ⟨fun z hz => ?_, insS_sorted x h'.2⟩
        rcases mem_insS.mp hz with e | e
        · rw [e]; omega
        · exact h'.1 z e
theorem sset_sorted : ∀ l, (sset l).Pairwise (· < ·)
  | [] => .nil
  | x :: xs => insS_sorted x (sset_sorted xs)
theorem strict_ext : ∀ {l m : List Int}, l.Pairwise (· < ·) → m.Pairwise (· < ·) → (∀ k, k ∈ l ↔ k ∈ m) → l = m
  | [], [], _, _, _ => rfl
  | [], y :: m, _, _, h => absurd ((h y).mpr (.head _)) (by simp)
  | x :: l, [], _, _, h => absurd ((h x).mp (.head _)) (by simp)
  | x :: l, y :: m, hl, hm, h => by
    have hl' := List.pairwise_cons.mp hl
    have hm' := List.pairwise_cons.mp hm
    have e : x = y := by
      rcases List.mem_cons.mp ((h x).mp (.head _)) with e | e
      · exact e
      · rcases List.mem_cons.mp ((h y).mpr (.head _)) with e2 | e2
        · exact e2.symm
        · have a := hm'.1 x e
          have b := hl'.1 y e2
          omega
    subst e
    have ih : l = m := strict_ext hl'.2 hm'.2 fun k => by
      constructor
      · intro hk
        rcases List.mem_cons.mp ((h k).mp (.tail _ hk)) with e | e
        · have := hl'.1 k hk; omega
        · exact e
      · intro hk
        rcases List.mem_cons.mp ((h k).mpr (.tail _ hk)) with e | e
        · have := hm'.1 k hk; omega
        · exact e
    rw [ih]
theorem sset_uniq {l m : List Int} (h : m.Pairwise (· < ·)) (e : ∀ k, k ∈ m ↔ k ∈ l) : m = sset l := strict_ext h (sset_sorted l) fun k => (e k).trans mem_sset.symm
def intKs : List (Key × PV) → Option (List Int)
  | [] => some []
  | (.inl i, _) :: r => (intKs r).map (i :: ·)
  | _ => none
def pSortI : PV → Option PV
  | .lst xs => (intsP xs).map fun ns => .lst ((isort ns).map .int)
  | .dct kvs => (intKs kvs).bind fun ns => if ns.length < 64 then some (.lst ((isort ns).map .int)) else none
  | _ => none
theorem reps_ints (F : Hp) : ∀ ns : List Int, Reps F (ns.map PV.int) (ns.map V.int)
  | [] => .nil
  | x :: xs => .cons (.int x) (reps_ints F xs)
theorem intKs_rep {F : Hp} : ∀ {kvs : List (Key × PV)} {vs : List (Key × V)} {ns : List Int}, intKs kvs = some ns → RepK F kvs vs → vs.map (·.1) = ns.map Sum.inl ∧ kvs.length = ns.length
  | [], _, _, h, r => by cases h; cases r; exact ⟨rfl, rfl⟩
  | (k, p) :: kvs, _, _, h, r => by
    cases r with
    | cons r t =>
      cases k with
      | inr x => cases h
      | inl i =>
        have h' : (intKs kvs).map (i :: ·) = some _ := h
        obtain ⟨ms, h1, rfl⟩ := Option.map_eq_some_iff.mp h'
        obtain ⟨e1, e2⟩ := intKs_rep h1 t
        exact ⟨by rw [List.map_cons, e1]; rfl, by simp [e2]⟩
theorem isort_len (l : List Int) : (isort l).length = l.length := (isort_perm l).length_eq
section
variable {X : Cx} {O O1 O' Ob : List Kd} {m m' m2 : Bool} {r ra rb rc : Option Nat} {tg a b c : Expr} {fa fb fc : EF} {pos : Pos}
theorem c_sortI (hc : X.calm = true) : CallR X (.builtin "sorted") (c1 m pSortI) := CallR.byp1 fun p z e => by
  cases p with
  | lst xs =>
    have e' : (intsP xs).map (fun ns => PV.lst ((isort ns).map .int)) = some z := e
    obtain ⟨ns, h, rfl⟩ := Option.map_eq_some_iff.mp e'
    refine ⟨_, cr_sortedI, fun x H F Q sub hp k => ?_⟩
    obtain ⟨a, vs, rfl, ha, rs, l⟩ := rdv_lst sub hp
    have hl : ns.length ≤ sizeLine := by
      have := ints_reps h rs
      have := rs.length
      rename_i e2
      rw [e2, List.length_map] at this
      omega
    rw [ints_reps h rs] at ha
    refine ⟨a, ns, rfl, .inl ha, fun ns' q pm pw hq => k _ _ (.inr ⟨q, _, rfl, hq, rfl, ?_⟩)⟩
    rw [isort_uniq pm pw]
    exact .lst (reps_ints F _) (by rw [List.length_map, isort_len]; exact hl)
  | dct kvs =>
    have e' : ((intKs kvs).bind fun ns => if ns.length < 64 then some (PV.lst ((isort ns).map .int)) else none) = some z := e
    obtain ⟨ns, h, e'⟩ := bind_some e'
    obtain ⟨hl, rfl⟩ := ite_some e'
    refine ⟨_, call_sortedDI hc, fun x H F Q sub hp k => ?_⟩
    obtain ⟨a, vs, rfl, ha, rs, _⟩ := rdv_dct sub hp
    obtain ⟨e1, e2⟩ := intKs_rep h rs
    refine ⟨a, vs, ns, rfl, ha, e1, hl, fun ns' q pm pw hq => k _ _ (.inr ⟨q, _, rfl, hq, rfl, ?_⟩)⟩
    rw [isort_uniq pm pw]
    exact .lst (reps_ints F _) (by rw [List.length_map, isort_len, sizeLine_eq]; omega)
  | _ => cases e

/-! ### sorted(set(xs)), len(set(xs)) -/
def rSetI (K : PySem.W.Frag) (w : World) : List V → Hp → VK → Prop := fun xs H Q => ∃ (l : Addr) (ns : List Int), xs = [V.ref l] ∧ (SqL K H l (ns.map V.int) ∨ SqT K H l (ns.map V.int)) ∧ ns.length < 1000 ∧
  ∀ a n, n ≤ ns.length → H a = none → Q (.ref a) (upd H a (SetO w a (fun j => decide (j ∈ ns)) n))
theorem cr_setI (hc : X.calm = true) : CallR X (.type "set") (rSetI X.K X.w) := by
  intro pins s σ H xs us Q I rr h
  obtain ⟨l, ns, rfl, hq, hl, q⟩ := h
  rw [Vals.ref1 rr]
  have hn : H s.heap.objs.size = none := I.hok.fresh (Nat.le_refl _)
  rcases hq with hq | hq
  · obtain ⟨its, rv, pt, hz⟩ := I.list hq
    refine set_lstI ns (I.ok.hd hc) (show s.heap.IsList l its.toArray from pt.isList) (ints_of_vals rv) (by unfold scanBound; omega) fun h' tk c R hcn k => ?_
    exact ⟨.ref s.heap.objs.size, upd H s.heap.objs.size (SetO X.w s.heap.objs.size (fun j => decide (j ∈ ns)) c), I.laid (t' := tk) k (Nat.le_refl _) (setO_new R), rfl, q _ c hcn hn⟩
  · obtain ⟨its, rv, pt, hz⟩ := I.tuple hq
    refine call_set_tupI ns (I.ok.hd hc) (show s.heap.IsTuple l its.toArray from pt) (ints_of_vals rv) (by unfold scanBound; omega) fun h' tk c R hcn k => ?_
    exact ⟨.ref s.heap.objs.size, upd H s.heap.objs.size (SetO X.w s.heap.objs.size (fun j => decide (j ∈ ns)) c), I.laid (t' := tk) k (Nat.le_refl _) (setO_new R), rfl, q _ c hcn hn⟩
def intsOf : PV → Option (List Int)
  | .lst xs => intsP xs
  | .tup xs => intsP xs
  | _ => none
def pSortSet (p : PV) : Option PV := (intsOf p).bind fun ns => if ns.length < 64 then some (.lst ((sset ns).map .int)) else none
theorem intsOf_rdv {p : PV} {ns : List Int} {v : V} {H F : Hp} {K : PySem.W.Frag} (h : intsOf p = some ns) (s : Sub F H) (r : RdV p v H F) : ∃ a, v = .ref a ∧ (SqL K H a (ns.map V.int) ∨ SqT K H a (ns.map V.int)) := by
  cases p with
  | lst xs =>
    obtain ⟨a, vs, rfl, ha, rs, l⟩ := rdv_lst s r
    rw [ints_reps h rs] at ha
    exact ⟨a, rfl, .inl (.inl ha)⟩
  | tup xs =>
    obtain ⟨a, vs, rfl, _, ha, rs, l⟩ := rdv_tup s r
    rw [ints_reps h rs] at ha
    exact ⟨a, rfl, .inr (.inl (.inl ha))⟩
  | _ => cases h
theorem insS_len (x : Int) : ∀ l, (insS x l).length ≤ l.length + 1
  | [] => by simp [insS]
  | y :: l => by
    unfold insS
    split
    · simp
    · split
      · simp
      · have := insS_len x l
        simp; omega
theorem sset_len : ∀ l, (sset l).length ≤ l.length
  | [] => Nat.le_refl _
  | x :: l => by
    have := insS_len x (sset l)
    have := sset_len l
    simp [sset]; omega
theorem re_sortSet {p1 p2 pos2 : Pos} (hm : X.mg "sorted" = none) (hm2 : X.mg "set" = none) (ha : RR X O ra a fa) (hc : X.calm = true := by rfl) (hg : Gl X "sorted" := by rfl) (hg2 : Gl X "set" := by rfl)
    (na : starEach [.Call (.Name "set" p2) [a] [] pos2] X.env = (false, eval (.Call (.Name "set" p2) [a] [] pos2) X.env) :: starEach [] X.env := by rfl) (na2 : starEach [a] X.env = (false, eval a X.env) :: starEach [] X.env := by rfl)
    (pl : (backTo pos (starEach [] X.env)).any (·.1) = false := by rfl) (pl2 : (backTo pos2 (starEach [] X.env)).any (·.1) = false := by rfl) :
    RE X O true (.Call (.Name "sorted" p1) [.Call (.Name "set" p2) [a] [] pos2] [] pos) (e1 pSortSet fa) :=
  pe_imp (pe_callB (cr_sortedSet hc) hg hm (by decide +kernel) (pa_cons (pe_callTy (cr_setI hc) hg2 hm2 (by decide +kernel) (pa_cons ha pa_nil na2) (by decide) (by decide) na2 pl2) pa_nil na) (by decide) (by decide) na pl) fun σ H Q ⟨F, ρ, p, ρ', st, hf, k⟩ => by
    obtain ⟨⟨x, ρ1⟩, h1, hf⟩ := bind_some hf
    obtain ⟨z, h3, hf⟩ := bind_some hf
    cases hf
    have h3' : ((intsOf x).bind fun ns => if ns.length < 64 then some (PV.lst ((sset ns).map .int)) else none) = some p := h3
    obtain ⟨ns, h4, h3'⟩ := bind_some h3'
    obtain ⟨hl, rfl⟩ := ite_some h3'
    refine ⟨F, ρ, x, ρ1, st, h1, fun v1 H1 F1 po rd => ?_⟩
    obtain ⟨l, rfl, hq⟩ := intsOf_rdv (K := X.K) h4 po.st.sub rd.val
    refine ⟨l, ns, rfl, hq, by omega, fun s n hn hs => ?_⟩
    refine ⟨s, _, n, rfl, upd_same, by omega, fun ns' q pw hm' _ hq' => ?_⟩
    have e : ns' = sset ns := sset_uniq pw fun k => by rw [hm' k, decide_eq_true_eq]
    subst e
    -- the set is nobody's
    have po2 : PoE O ρ1 σ H1 F1 ρ1 (upd H1 s (SetO X.w s (fun j => decide (j ∈ ns)) n)) F1 := ⟨po.st.new hs, Frm.new hs, EK.refl _ _⟩
    have pr : PRes true (.lst ((sset ns).map .int)) (.ref q) (upd H1 s (SetO X.w s (fun j => decide (j ∈ ns)) n)) F1 (upd (upd H1 s (SetO X.w s (fun j => decide (j ∈ ns)) n)) q (.lst ((sset ns).map V.int))) :=
      .inr ⟨q, _, rfl, hq', rfl, .lst (reps_ints F1 _) (by rw [List.length_map, sizeLine_eq]; have := sset_len ns; omega)⟩
    obtain ⟨F', po3, rs⟩ := pr.fin (po.trans po2).st
    exact k _ _ F' ((po.trans po2).trans po3) (rs.trans (po.trans po2))
end
end Pv

/-! Pv15: a dict comprehension kept by a name; what K holds. -/
noncomputable section
namespace Pv
open PySem PySem.Spec PyProof.Rows L2

section
variable {X : Cx} {O O1 O' Ob : List Kd} {m m' m2 : Bool} {r ra rb rc : Option Nat} {tg a b c : Expr} {fa fb fc : EF} {pos : Pos}
theorem ps_setDc {i : Nat} {y : Str} {py spos : Pos} {kx vx iter : Expr} {ifs : List Expr} {scope : Scope} {own : List (Str × Nat)} {wi : TI} {g : TG} {tt : TT} {tk tv : TE}
    (hc : X.calm = true) (hN : X.N.Nodup) (hy : X.N[i]? = some y) (hyl : X.env.scope.names.lookup y = some .local) (hsw : swapsWith (.DictComp kx vx [⟨tg, iter, ifs, 0⟩] scope pos) (some (.Name y py)) spos.line X.env = pure true)
    (hi : PI X tg iter wi) (ok : BlkOk X.N X.env.scope scope own)
    (hg : ∀ (s : Shared) (H : Hp) (C : Addr) (cl : List (Str × Addr)) (fp : List Addr), PG (X.blk s H scope (compEnvC scope cl C X.env) fp) tg g) (ht : ∀ (s : Shared) (H : Hp) (C : Addr) (cl : List (Str × Addr)) (fp : List Addr), PTs (X.blk s H scope (compEnvC scope cl C X.env) fp) ifs tt)
    (hk : ∀ (s : Shared) (H : Hp) (C : Addr) (cl : List (Str × Addr)) (fp : List Addr), PE (X.blk s H scope (compEnvC scope cl C X.env) fp) kx tk) (he : ∀ (s : Shared) (H : Hp) (C : Addr) (cl : List (Str × Addr)) (fp : List Addr), PE (X.blk s H scope (compEnvC scope cl C X.env) fp) vx tv)
    (hs : ∀ x, foldedSetIterable iter X.env x = pure x := by intro _; rfl) : PS X (.Assign [.Name y py] (.DictComp kx vx [⟨tg, iter, ifs, 0⟩] scope pos) spos) (tAsg (tDc wi g tt tk tv (own.map (·.2))) (gName i)) := ⟨fun pins s σ H D I h => by
  rw [exec_Assign_Name_used _ _ _ _ hsw]
  refine wpAny_bind (wpAny_standAt (wpAny_bind ?_))
  show wpAny _ X.A (do let _ ← comprehension (.DictComp kx vx [⟨tg, iter, ifs, 0⟩] scope pos) scope X.env (firstIterPos [⟨tg, iter, ifs, 0⟩] pos) newDict false (eval iter X.env) (some (assign (.Name y py) X.env))) _ _ s
  have h2 : tDc wi g tt tk tv (own.map (·.2)) σ H (fun x H1 => gName i x σ H1 D.nx) := h
  refine wpAny_bind (thn (dc_core (Qf := fun _ s' => SP X pins D .next s') hc hN I hi ok hg ht hk he hs h2 fun L C s' m H' I' q hn f => ?_) fun _ s' hq => wpAny_pure (wpAny_pure hq))
  show wpAny _ _ (assign (.Name y py) X.env (.ref L)) _ _ _
  obtain ⟨f0, f1, f2, f3, f4, f5⟩ := f
  refine wpAny_assign_Name (store_ok2 (v := V.ref L) I' hN hy (.inl hyl) rfl (fun s2 I2 ⟨a, sb, ha⟩ => ⟨m, hn.sameBut sb (by
    rcases ha with z | z
    · rw [z]; exact f1
    · exact fun e => f4 y a z e.symm), fun h3 sb3 => ?_⟩) (.inr hyl))
  exact ⟨_, H', I2.turned (t' := s2.toks) (fun b o hb e => (sb3.2 b hb).trans e) f0 f1 f3 f4 f5, q⟩⟩
theorem sw_trueD {kx vx : Expr} {gs : List Comprehension} {scope : Scope} {py : Pos} {y : Str} {l : Nat} {env : PySem.Env} (hk : env.scope.kind = .function) (hy : env.scope.names.lookup y = some .local) (hl : (py.line == pos.line) = true)
    (ha : (scope.names.any fun (n, k) => n == y && (k == .local || k == .cell)) = false) : swapsWith (.DictComp kx vx gs scope pos) (some (.Name y py)) l env = pure true := by
  have := sw_true (elt := kx) (gs := gs) (l := l) hk hy hl ha
  exact this
theorem rs_setDc (i : Nat) {y : Str} {py spos : Pos} {kx vx iter : Expr} {ifs : List Expr} {scope : Scope} {own : List (Str × Nat)} {fi : LF} {gf : GF} {tt : TF} {te tv : EF} (hN : X.N.Nodup) (hi : RI X O r tg iter fi) (ok : BlkOk X.N X.env.scope scope own) (hv : vsFr O (own.map (·.2)) = true)
    (hg : ∀ (s : Shared) (H : Hp) (C : Addr) (cl : List (Str × Addr)) (fp : List Addr), RG (X.blk s H scope (compEnvC scope cl C X.env) fp) (lockO r O) (own.map (·.2)) tg gf) (ht : ∀ (s : Shared) (H : Hp) (C : Addr) (cl : List (Str × Addr)) (fp : List Addr), RTs (X.blk s H scope (compEnvC scope cl C X.env) fp) (lockO r O) ifs tt)
    (hk : ∀ (s : Shared) (H : Hp) (C : Addr) (cl : List (Str × Addr)) (fp : List Addr), RE (X.blk s H scope (compEnvC scope cl C X.env) fp) (lockO r O) false kx te)
    (he : ∀ (s : Shared) (H : Hp) (C : Addr) (cl : List (Str × Addr)) (fp : List Addr), RE (X.blk s H scope (compEnvC scope cl C X.env) fp) (lockO r O) false vx tv)
    (hsw : swapsWith (.DictComp kx vx [⟨tg, iter, ifs, 0⟩] scope pos) (some (.Name y py)) spos.line X.env = pure true) (hc : X.calm = true := by rfl) (hy : X.N[i]? = some y := by rfl) (hyl : X.env.scope.names.lookup y = some .local := by rfl) (hl : i < O.length := by decide) (hf : freeK (kd O i) = true := by rfl)
    (hs : ∀ x, foldedSetIterable iter X.env x = pure x := by intro _; rfl) :
    RS X O (O.set i .ow) Ob m (.Assign [.Name y py] (.DictComp kx vx [⟨tg, iter, ifs, 0⟩] scope pos) spos) (sAsg i (eDc fi gf tt te tv (own.map (·.2)))) :=
  ps_imp (ps_setDc hc hN hy hyl hsw hi ok hg ht hk he hs) fun D σ H h => asg_mono (imp_dc hv) (imp_asgM hl hf D σ H h)
end

/-- at the lowest level nothing is promised -/
theorem fnok0 {P : Program} {w : World} {K : PySem.W.Frag} {mg : Str → Option Value} {base : Heap} {f : Addr} {fd : FuncData} {ks : List Kd} {m : Bool} (pn : List Str) : FnOk P w K mg base CX0 0 f fd pn (spF ks m fun _ => none) :=
  ⟨fun vs H Q E ⟨_, _, _, _, _, _, _, h, _⟩ => (nomatch h), fun _ _ _ _ _ _ _ _ _ _ _ _ _ ⟨_, _, _, _, _, _, _, h, _⟩ => (nomatch h)⟩
/-- no list among what the module holds -/
def noL (K : PySem.W.Frag) : Bool := K.all fun p => match p.2.cls with
  | .type "list" => false
  | _ => true
theorem noL_at : ∀ {K : PySem.W.Frag} {a : Addr} {o : Obj}, noL K = true → K.lookup a = some o → o.cls ≠ .type "list"
  | [], _, _, _, h => by cases h
  | (b, u) :: K, a, o, n, h => by
    have n' : (match u.cls with | .type "list" => false | _ => true) = true ∧ noL K = true := by
      unfold noL at n ⊢
      rw [List.all_cons, Bool.and_eq_true] at n
      exact n
    rw [List.lookup_cons] at h
    split at h
    · cases h
      intro e
      have := n'.1
      rw [e] at this
      cases this
    · exact noL_at n'.2 h
theorem sql_rd {K : PySem.W.Frag} {H : Hp} {a : Addr} {xs : List V} (n : noL K = true) (h : SqL K H a xs) : Rd H a (.lst xs) := by
  rcases h with h | ⟨o, its, c, h, e, _⟩
  · exact h
  · exact absurd e (noL_at n h)
/-- the law's own frame: the script is read alone -/
theorem StOk.script {H : Hp} {a : Addr} {ns : List Int} (r : Rd H a (.lst (ns.map V.int))) (hl : ns.length ≤ 63) : StOk [.lk] ([PV.lst (ns.map .int)].map some) ([V.ref a].map some) H (fun _ => none) := by
  refine ⟨fun b u e => (by cases e), rfl, fun i p hp => ?_, fun i j b p ne ho hk hp hs => ?_⟩
  · cases i with
    | zero =>
      cases hp
      exact ⟨_, rfl, .inr ⟨rfl, a, _, rfl, r, .lst (reps_ints _ ns) (by rw [List.length_map, sizeLine_eq]; omega)⟩⟩
    | succ i => simp at hp
  · obtain ⟨h1, _⟩ := ho
    cases i with
    | zero => cases h1
    | succ i => cases h1
end Pv

/-! Pv16: evaluating the plain functions. -/
noncomputable section
namespace Pv
open PySem PySem.Spec PyProof.Rows L2

/-! ### what comes out -/
def Ev {α : Type} (x : Option α) (Q : α → Prop) : Prop := ∃ a, x = some a ∧ Q a
section
variable {α β : Type} {x : Option α} {f : α → Option β} {Q : β → Prop} {a : α}
@[simp] theorem Ev_some {Q : α → Prop} : Ev (some a) Q ↔ Q a := ⟨fun ⟨_, e, h⟩ => (by cases e; exact h), fun h => ⟨a, rfl, h⟩⟩
@[simp] theorem Ev_none {Q : α → Prop} : Ev none Q ↔ False := ⟨fun ⟨_, e, _⟩ => (by cases e), False.elim⟩
theorem Ev_bind : Ev (x.bind f) Q ↔ Ev x fun a => Ev (f a) Q := by
  cases x with
  | none => simp
  | some a => simp
theorem Ev.mono {Q Q' : α → Prop} (h : Ev x Q) (i : ∀ a, Q a → Q' a) : Ev x Q' := h.imp fun a z => ⟨z.1, i a z.2⟩
theorem Ev.eq {Q : α → Prop} (h : Ev x Q) (e : x = some a) : Q a := by
  obtain ⟨b, e2, q⟩ := h
  rw [e] at e2; cases e2; exact q
end

/-! ### combinators where they are used -/
section
variable {f g h : EF} {s t : TF} {a b c : EF} {l l2 : LF} {p q : PV} {ρ : Env} {i j : Nat} {m n : Nat}
@[simp] theorem eC_ap : eC p ρ = some (p, ρ) := rfl
@[simp] theorem eV_ap (h : ρ[i]? = some (some p)) : eV i ρ = some (p, ρ) := by unfold eV; rw [h]
@[simp] theorem eV_0 {r : Env} : eV 0 (some p :: r) = some (p, some p :: r) := rfl
@[simp] theorem e1_ap {g : PV → Option PV} : e1 g a ρ = (a ρ).bind fun x => (g x.1).bind fun z => some (z, x.2) := rfl
@[simp] theorem e2_ap {g : PV → PV → Option PV} : e2 g a b ρ = (a ρ).bind fun x => (b x.2).bind fun y => (g x.1 y.1).bind fun z => some (z, y.2) := rfl
@[simp] theorem tV_ap : tV a ρ = (a ρ).bind fun x => match x.1 with | .bl b => some (b, x.2) | _ => none := rfl
@[simp] theorem tAndF_ap : tAndF s t ρ = (s ρ).bind fun x => if x.1 then t x.2 else some (false, x.2) := rfl
@[simp] theorem tOrF_ap : tOrF s t ρ = (s ρ).bind fun x => if x.1 then some (true, x.2) else t x.2 := rfl
@[simp] theorem tNotF_ap : tNotF s ρ = (s ρ).bind fun x => some (!x.1, x.2) := rfl
@[simp] theorem tYesF_ap : tYesF ρ = some (true, ρ) := rfl
@[simp] theorem eAnd_ap : eAnd a b ρ = (tV a ρ).bind fun x => if x.1 then b x.2 else some (.bl false, x.2) := rfl
@[simp] theorem eOr_ap : eOr a b ρ = (tV a ρ).bind fun x => if x.1 then some (.bl true, x.2) else b x.2 := rfl
@[simp] theorem eNot_ap : eNot a ρ = (tV a ρ).bind fun x => some (.bl (!x.1), x.2) := rfl
@[simp] theorem eIf_ap : eIf s a b ρ = (s ρ).bind fun x => if x.1 then a x.2 else b x.2 := rfl
@[simp] theorem eNil_ap : eNil ρ = some ([], ρ) := rfl
@[simp] theorem eCons_ap : eCons a l ρ = (a ρ).bind fun x => (l x.2).bind fun y => some (x.1 :: y.1, y.2) := rfl
@[simp] theorem eTup_ap : eTup l ρ = (l ρ).bind fun x => if x.1.length ≤ LIM then some (.tup x.1, x.2) else none := rfl
@[simp] theorem eLst_ap : eLst l ρ = (l ρ).bind fun x => if x.1.length ≤ LIM then some (.lst x.1, x.2) else none := rfl
@[simp] theorem eGet2_ap : eGet2 a b c ρ = (a ρ).bind fun x => (b x.2).bind fun y => (c y.2).bind fun z => (pDget x.1 y.1).bind fun o => some (o.getD z.1, z.2) := rfl
@[simp] theorem eGet1_ap : eGet1 a b ρ = (a ρ).bind fun x => (b x.2).bind fun y => (pDget x.1 y.1).bind fun o => some (o.getD .non, y.2) := rfl
@[simp] theorem e3_ap {g g' : PV → PV → Option PV} : e3 g g' a b c ρ = (a ρ).bind fun x => (b x.2).bind fun y => (g x.1 y.1).bind fun z => match z with
  | .bl true => (c y.2).bind fun u => (g' y.1 u.1).bind fun w => some (w, u.2)
  | .bl false => some (.bl false, y.2)
  | _ => none := rfl
@[simp] theorem oN_ap : oN ρ = some (none, ρ) := rfl
@[simp] theorem oS_ap : oS a ρ = (a ρ).bind fun x => match x.1 with | .int i => some (some i, x.2) | _ => none := rfl
@[simp] theorem eSl_ap {u v : OF} : eSl a u v ρ = (a ρ).bind fun x => (u x.2).bind fun i => (v i.2).bind fun j => (pCut x.1 i.1 j.1).bind fun z => some (z, j.2) := rfl
@[simp] theorem iE_ap : iE a ρ = (a ρ).bind fun x => (pIter x.1).bind fun ps => some (ps, x.2) := rfl
@[simp] theorem iRg1_ap : iRg1 a ρ = (a ρ).bind fun x => match x.1 with | .int j => if rgB 0 j then some (rgP 0 j.toNat, x.2) else none | _ => none := rfl
@[simp] theorem iRg2_ap : iRg2 a b ρ = (a ρ).bind fun x => (b x.2).bind fun y => match x.1, y.1 with | .int i, .int j => if rgB i j then some (rgP i (j - i).toNat, y.2) else none | _, _ => none := rfl
@[simp] theorem iRg3_ap : iRg3 a b c ρ = (a ρ).bind fun x => (b x.2).bind fun y => (c y.2).bind fun z => match x.1, y.1, z.1 with
  | .int i, .int j, .int k => if rg3B i j k then some (rgC i k (Builtin.Range.rangeSize i j k).toNat, z.2) else none
  | _, _, _ => none := rfl
@[simp] theorem eMutL_ap {g : List PV → List PV → Option (PV × List PV)} : eMutL i l g ρ = (getL ρ i).bind fun _ => (l ρ).bind fun x => (getL x.2 i).bind fun ps => (g ps x.1).bind fun r => some (r.1, x.2.set i (some (.lst r.2))) := rfl
@[simp] theorem getL_z {xs : List PV} {r : Env} : getL (some (.lst xs) :: r) 0 = some xs := rfl
@[simp] theorem getL_s {o : Option PV} {r : Env} : getL (o :: r) (i + 1) = getL r i := rfl
@[simp] theorem getM_z {r : Env} : getM (some p :: r) 0 = if isM p then some p else none := rfl
@[simp] theorem getM_s {o : Option PV} {r : Env} : getM (o :: r) (i + 1) = getM r i := rfl
@[simp] theorem isM_lst {xs : List PV} : isM (.lst xs) = true := rfl
@[simp] theorem isM_dct {xs : List (Key × PV)} : isM (.dct xs) = true := rfl
@[simp] theorem isM_dtt {xs : List (List Key × PV)} : isM (.dtt xs) = true := rfl
@[simp] theorem gApp_ap {ps : List PV} : gApp ps [p] = if ps.length < LIM then some (.non, ps ++ [p]) else none := rfl
@[simp] theorem gPop_ap {ps : List PV} : gPop ps [] = ps[ps.length - 1]?.map fun y => (y, ps.dropLast) := rfl
@[simp] theorem gRev_ap {ps : List PV} : gRev ps [] = some (.non, ps.reverse) := rfl
variable {u v : SF}
@[simp] theorem sSeq_ap : sSeq u v ρ = (u ρ).bind fun x => match x.1 with | .nx => v x.2 | o => some (o, x.2) := rfl
@[simp] theorem sNx_ap : sNx ρ = some (.nx, ρ) := rfl
@[simp] theorem sBk_ap : sBk ρ = some (.bk, ρ) := rfl
@[simp] theorem sCt_ap : sCt ρ = some (.ct, ρ) := rfl
@[simp] theorem sRet_ap : sRet a ρ = (a ρ).bind fun x => some (.rt x.1, x.2) := rfl
@[simp] theorem sRetN_ap : sRetN ρ = some (.rt .non, ρ) := rfl
@[simp] theorem sIf_ap : sIf s u v ρ = (s ρ).bind fun x => if x.1 then u x.2 else v x.2 := rfl
@[simp] theorem sDrop_ap : sDrop a ρ = (a ρ).bind fun x => some (.nx, x.2) := rfl
@[simp] theorem sAsg_ap : sAsg i a ρ = (a ρ).bind fun x => some (.nx, x.2.set i (some x.1)) := rfl
@[simp] theorem sAsgT_ap {g : GF} : sAsgT g a ρ = (a ρ).bind fun x => (g x.1 x.2).bind fun ρ1 => some (.nx, ρ1) := rfl
@[simp] theorem sPar_ap : sPar i j a b ρ = (a ρ).bind fun x => (b x.2).bind fun y => some (.nx, (y.2.set i (some x.1)).set j (some y.1)) := rfl
@[simp] theorem sSub_ap : sSub i a b ρ = (b ρ).bind fun v => (getM v.2 i).bind fun _ => (a v.2).bind fun k => (getM k.2 i).bind fun c => (pSet c k.1 v.1).bind fun z => some (.nx, k.2.set i (some z)) := rfl
@[simp] theorem sAug_ap {g : PV → PV → Option PV} : sAug i g a ρ = (eV i ρ).bind fun x => (a x.2).bind fun y => (g x.1 y.1).bind fun z => some (.nx, y.2.set i (some z)) := rfl
@[simp] theorem sExt_ap : sExt i a ρ = (getL ρ i).bind fun _ => (a ρ).bind fun y => match y.1 with
  | .lst zs => (getL y.2 i).bind fun ps => if ps.length + zs.length ≤ LIM then some (.nx, y.2.set i (some (.lst (ps ++ zs)))) else none
  | _ => none := rfl
@[simp] theorem sFor_ap {g : GF} : sFor l g u ρ = (l ρ).bind fun x => loopF g u x.1 x.2 := rfl
@[simp] theorem gN_ap : gN i p ρ = some (ρ.set i (some p)) := rfl
@[simp] theorem gsN_ap : gsN [] ρ = some ρ := rfl
@[simp] theorem gsC_ap {g : GF} {r : List PV → Env → Option Env} {ps : List PV} : gsC g r (p :: ps) ρ = (g p ρ).bind fun ρ1 => r ps ρ1 := rfl
@[simp] theorem gT'_ap {g : List PV → Env → Option Env} {ps : List PV} : gT' n g (.tup ps) ρ = if ps.length = n then g ps ρ else none := rfl
@[simp] theorem runF_ap {ks : List Kd} {ps : List PV} : runF n ks u ps = (u (ps.map some ++ List.replicate (n - ps.length) none)).bind fun x => match x.1 with
  | .rt p => (outs ks ps x.2).bind fun r => some (p, r)
  | .nx => (outs ks ps x.2).bind fun r => some (.non, r)
  | _ => none := rfl
@[simp] theorem outs_nil {ρ : Env} : outs [] [] ρ = some [] := rfl
@[simp] theorem outs_fr {ks : List Kd} {ps : List PV} {o : Option PV} : outs (.fr :: ks) (p :: ps) (o :: ρ) = (outs ks ps ρ).bind fun r => some (p :: r) := rfl
@[simp] theorem outs_lk {ks : List Kd} {ps : List PV} {o : Option PV} : outs (.lk :: ks) (p :: ps) (o :: ρ) = (outs ks ps ρ).bind fun r => some (p :: r) := rfl
@[simp] theorem outs_io {ks : List Kd} {ps : List PV} {o : Option PV} : outs (.io :: ks) (p :: ps) (o :: ρ) = o.bind fun q => (outs ks ps ρ).bind fun r => some (q :: r) := rfl
@[simp] theorem eCall_ap {ks : List Kd} {fn : PFn} {as : List AF} : eCall ks fn as ρ = (evA as ρ).bind fun x => (rsA x.2 x.1).bind fun ps => (fn ps).bind fun r => some (r.1, wbA ks x.1 r.2 x.2) := rfl
@[simp] theorem evA_nil : evA [] ρ = some ([], ρ) := rfl
@[simp] theorem evA_ex {r : List AF} : evA (.ex f :: r) ρ = (f ρ).bind fun x => (evA r x.2).bind fun y => some (.inl x.1 :: y.1, y.2) := rfl
@[simp] theorem evA_sl {r : List AF} : evA (.sl j :: r) ρ = (eV j ρ).bind fun _ => (evA r ρ).bind fun y => some (.inr j :: y.1, y.2) := rfl
@[simp] theorem rsA_nil : rsA ρ [] = some [] := rfl
@[simp] theorem rsA_inl {r : List (PV ⊕ Nat)} : rsA ρ (.inl p :: r) = (rsA ρ r).bind fun ps => some (p :: ps) := rfl
@[simp] theorem rsA_inr {r : List (PV ⊕ Nat)} : rsA ρ (.inr j :: r) = (eV j ρ).bind fun x => (rsA ρ r).bind fun ps => some (x.1 :: ps) := rfl
@[simp] theorem wbA_nil {xs : List (PV ⊕ Nat)} {ps : List PV} : wbA [] xs ps ρ = ρ := by cases xs <;> cases ps <;> rfl
@[simp] theorem wbA_fr {ks : List Kd} {x : PV ⊕ Nat} {xs : List (PV ⊕ Nat)} {ps : List PV} : wbA (.fr :: ks) (x :: xs) (p :: ps) ρ = wbA ks xs ps ρ := by cases x <;> rfl
@[simp] theorem wbA_lk {ks : List Kd} {x : PV ⊕ Nat} {xs : List (PV ⊕ Nat)} {ps : List PV} : wbA (.lk :: ks) (x :: xs) (p :: ps) ρ = wbA ks xs ps ρ := by cases x <;> rfl
@[simp] theorem wbA_io {ks : List Kd} {xs : List (PV ⊕ Nat)} {ps : List PV} : wbA (.io :: ks) (.inr j :: xs) (p :: ps) ρ = wbA ks xs ps (ρ.set j (some p)) := rfl
@[simp] theorem eV_s {o : Option PV} {r : Env} : eV (i + 1) (o :: r) = (eV i r).bind fun x => some (x.1, o :: r) := by
  unfold eV
  rw [List.getElem?_cons_succ]
  cases r[i]? with
  | none => rfl
  | some z => cases z <;> rfl
end

/-! ### operators on values -/
section
variable {i j : Int} {x y : Str} {xs ys : List PV} {p q : PV}
@[simp] theorem pAdd_i : pAdd (.int i) (.int j) = some (.int (i + j)) := rfl
@[simp] theorem pAdd_t : pAdd (.tup xs) (.tup ys) = if xs.length + ys.length ≤ LIM then some (.tup (xs ++ ys)) else none := rfl
@[simp] theorem pAdd_l : pAdd (.lst xs) (.lst ys) = if xs.length + ys.length ≤ LIM then some (.lst (xs ++ ys)) else none := rfl
@[simp] theorem pSub_i : pSub (.int i) (.int j) = some (.int (i - j)) := rfl
@[simp] theorem pMul_i (h : mulG i j) : pMul (.int i) (.int j) = some (.int (i * j)) := if_pos h
@[simp] theorem pFdiv_i (h : 0 < j) (h2 : j < BJ) : pFdiv (.int i) (.int j) = some (.int (i / j)) := if_pos ⟨h, h2⟩
@[simp] theorem pMod_i : pMod (.int i) (.int j) = if 0 < j then some (.int (i % j)) else none := rfl
@[simp] theorem pPow_i : pPow (.int i) (.int j) = if (0 ≤ j ∧ j ≤ 1000) ∧ (-1000000 ≤ i ∧ i ≤ 1000000) then some (.int (i ^ j.toNat)) else none := rfl
@[simp] theorem pLt_i : pLt (.int i) (.int j) = some (.bl (decide (i < j))) := rfl
@[simp] theorem pLe_i : pLe (.int i) (.int j) = some (.bl (decide (i ≤ j))) := rfl
@[simp] theorem pGt_i : pGt (.int i) (.int j) = some (.bl (decide (j < i))) := rfl
@[simp] theorem pGe_i : pGe (.int i) (.int j) = some (.bl (decide (j ≤ i))) := rfl
@[simp] theorem pNeg_i : pNeg (.int i) = some (.int (-i)) := rfl
@[simp] theorem pAbs_i : pAbs (.int i) = some (.int (if i < 0 then -i else i)) := rfl
@[simp] theorem pInt_i : pInt (.int i) = some (.int i) := rfl
@[simp] theorem pInt_b {b : Bool} : pInt (.bl b) = some (.int (if b then 1 else 0)) := rfl
@[simp] theorem pLen_t : pLen (.tup xs) = some (.int xs.length) := rfl
@[simp] theorem pLen_l : pLen (.lst xs) = some (.int xs.length) := rfl
@[simp] theorem pLen_d {kvs : List (Key × PV)} : pLen (.dct kvs) = some (.int kvs.length) := rfl
@[simp] theorem pTuple_l : pTuple (.lst xs) = some (.tup xs) := rfl
@[simp] theorem pTuple_t : pTuple (.tup xs) = some (.tup xs) := rfl
@[simp] theorem pList_l : pList (.lst xs) = some (.lst xs) := rfl
@[simp] theorem pList_t : pList (.tup xs) = some (.lst xs) := rfl
@[simp] theorem pIter_t : pIter (.tup xs) = some xs := rfl
@[simp] theorem pIter_l : pIter (.lst xs) = some xs := rfl
@[simp] theorem pItem_t : pItem (.tup xs) (.int i) = atI xs i := rfl
@[simp] theorem pItem_l : pItem (.lst xs) (.int i) = atI xs i := rfl
@[simp] theorem pItem_di {kvs : List (Key × PV)} : pItem (.dct kvs) (.int i) = valP kvs (.inl i) := rfl
@[simp] theorem pDget_i {kvs : List (Key × PV)} : pDget (.dct kvs) (.int i) = some (valP kvs (.inl i)) := rfl
@[simp] theorem pCut_t {a b : Option Int} : pCut (.tup xs) a b = some (.tup (cutP xs a b)) := rfl
@[simp] theorem pCut_l {a b : Option Int} : pCut (.lst xs) a b = some (.lst (cutP xs a b)) := rfl
@[simp] theorem pEq_i : pEq (.int i) (.int j) = some (.bl (i == j)) := rfl
@[simp] theorem pNe_i : pNe (.int i) (.int j) = some (.bl (!(i == j))) := rfl
@[simp] theorem pEq_s : pEq (.str x) (.str y) = some (.bl (x == y)) := rfl
@[simp] theorem pNe_s : pNe (.str x) (.str y) = some (.bl (!(x == y))) := rfl
theorem pEq_t : pEq (.tup xs) (.tup ys) = if (dts 39 xs && dts 39 ys) = true then some (.bl (peqs xs ys)) else none := rfl
@[simp] theorem pEq_b {a b : Bool} : pEq (.bl a) (.bl b) = some (.bl (a == b)) := by cases a <;> cases b <;> rfl
@[simp] theorem peq_b {a b : Bool} : peq (.bl a) (.bl b) = (a == b) := rfl
@[simp] theorem pEq_si : pEq (.str x) (.int j) = some (.bl false) := rfl
@[simp] theorem pEq_is : pEq (.int j) (.str x) = some (.bl false) := rfl
@[simp] theorem pIn_l : pIn p (.lst xs) = (if dt 40 p && dts 39 xs then some (xs.any fun z => peq z p) else none).map PV.bl := rfl
@[simp] theorem pIn_t : pIn p (.tup xs) = (if dt 40 p && dts 39 xs then some (xs.any fun z => peq z p) else none).map PV.bl := rfl
@[simp] theorem pNotIn_l : pNotIn p (.lst xs) = (if dt 40 p && dts 39 xs then some (xs.any fun z => peq z p) else none).map fun b => PV.bl (!b) := rfl
@[simp] theorem pNotIn_t : pNotIn p (.tup xs) = (if dt 40 p && dts 39 xs then some (xs.any fun z => peq z p) else none).map fun b => PV.bl (!b) := rfl
@[simp] theorem pIn_di {kvs : List (Key × PV)} : pIn (.int i) (.dct kvs) = some (.bl (valP kvs (.inl i)).isSome) := rfl
@[simp] theorem pNotIn_di {kvs : List (Key × PV)} : pNotIn (.int i) (.dct kvs) = some (.bl (!(valP kvs (.inl i)).isSome)) := rfl
@[simp] theorem pSet_di {kvs : List (Key × PV)} : pSet (.dct kvs) (.int i) p = if kvs.length < LIM then some (.dct (putP kvs (.inl i) p)) else none := rfl
@[simp] theorem key1_i : key1 (.int i) = some (.inl i) := rfl
@[simp] theorem key1_s : key1 (.str x) = some (.inr x) := rfl
@[simp] theorem dt_i {n : Nat} : dt n (.int i) = true := by cases n <;> rfl
@[simp] theorem dt_bl {n : Nat} {b : Bool} : dt n (.bl b) = true := by cases n <;> rfl
@[simp] theorem dt_non {n : Nat} : dt n .non = true := by cases n <;> rfl
@[simp] theorem dt_s {n : Nat} {x : Str} : dt n (.str x) = PyData.strOk x := by cases n <;> rfl
@[simp] theorem dt_t {n : Nat} : dt (n + 1) (.tup xs) = dts n xs := rfl
@[simp] theorem dt_l {n : Nat} : dt (n + 1) (.lst xs) = dts n xs := rfl
@[simp] theorem dts_n {n : Nat} : dts n [] = true := by cases n <;> rfl
@[simp] theorem dts_c {n : Nat} : dts n (p :: xs) = (dt n p && dts n xs) := by cases n <;> rfl
@[simp] theorem peq_i : peq (.int i) (.int j) = (i == j) := rfl
@[simp] theorem peq_s : peq (.str x) (.str y) = (x == y) := rfl
@[simp] theorem peq_si : peq (.str x) (.int j) = false := rfl
@[simp] theorem peq_is : peq (.int j) (.str x) = false := rfl
@[simp] theorem peq_t : peq (.tup xs) (.tup ys) = peqs xs ys := rfl
@[simp] theorem peqs_n : peqs [] [] = true := rfl
@[simp] theorem peqs_c : peqs (p :: xs) (q :: ys) = (peq p q && peqs xs ys) := rfl
@[simp] theorem peqs_nc : peqs [] (q :: ys) = false := rfl
@[simp] theorem peqs_cn : peqs (p :: xs) [] = false := rfl
theorem atI_ofNat {α : Type} {l : List α} {k : Nat} : atI l (k : Int) = l[k]? := by
  cases h : l[k]? with
  | some v => exact atI_nat h
  | none =>
    have hk : l.length ≤ k := by simpa using h
    unfold L2.atI L2.ixN
    rw [if_pos (by omega), if_neg (by omega)]
    rfl
@[simp] theorem atI_0 {α : Type} {l : List α} : atI l 0 = l[0]? := atI_ofNat (k := 0)
@[simp] theorem atI_1 {α : Type} {l : List α} : atI l 1 = l[1]? := atI_ofNat (k := 1)
@[simp] theorem atI_2 {α : Type} {l : List α} : atI l 2 = l[2]? := atI_ofNat (k := 2)
@[simp] theorem atI_3 {α : Type} {l : List α} : atI l 3 = l[3]? := atI_ofNat (k := 3)
@[simp] theorem atI_4 {α : Type} {l : List α} : atI l 4 = l[4]? := atI_ofNat (k := 4)
@[simp] theorem atI_cast {α : Type} {l : List α} {k : Nat} : atI l (k : Int) = l[k]? := atI_ofNat
@[simp] theorem ncs {n : Nat} : ((n : Int) + 1 = 0) ↔ False := ⟨fun h => by omega, False.elim⟩
@[simp] theorem ncs2 {n : Nat} : ((0 : Int) < (n : Int) + 1) ↔ True := ⟨fun _ => trivial, fun _ => by omega⟩
theorem rgP0 {n : Nat} : rgP 0 n = (List.range n).map fun (i : Nat) => PV.int (i : Int) := by unfold rgP; simp
theorem dts_all {n : Nat} : ∀ {l : List PV}, dts n l = l.all (dt n)
  | [] => by simp
  | p :: l => by simp [dts_all (l := l)]
end
theorem str_beq {a b : Str} : (a == b) = decide (a = b) := by
  by_cases h : a = b
  · subst h; simp
  · simp [h]

/-! ### loops -/
section
variable {α : Type} {enc : α → PV} {g : GF} {b : SF} {tt : TF} {te tv : EF} {vs : List Nat} {ρ : Env}
theorem loop_ev {I : List α → Env → Prop} {Q : Out × Env → Prop} : ∀ (post pre : List α) (ρ : Env), (∀ pre' x post' ρ, pre ++ post = pre' ++ x :: post' → I pre' ρ → Ev ((g (enc x) ρ).bind b) fun r => match r.1 with | .nx => I (pre' ++ [x]) r.2 | .ct => I (pre' ++ [x]) r.2 | .bk => Q (.nx, r.2) | .rt q => Q (.rt q, r.2)) →
    (∀ ρ, I (pre ++ post) ρ → Q (.nx, ρ)) → I pre ρ → Ev (loopF g b (post.map enc) ρ) Q
  | [], pre, ρ, h, hQ, h0 => by
    rw [List.append_nil] at hQ
    exact ⟨_, rfl, hQ ρ h0⟩
  | x :: post, pre, ρ, h, hQ, h0 => by
    have h1 := h pre x post ρ rfl h0
    rw [Ev_bind] at h1
    obtain ⟨ρ1, e1, o, e2, hr⟩ := h1
    have ih := loop_ev (I := I) (Q := Q) post (pre ++ [x]) o.2 (fun pre' y post' ρ e => h pre' y post' ρ (by rw [← e]; simp)) (fun ρ hi => hQ ρ (by simpa using hi))
    have eq : loopF g b ((x :: post).map enc) ρ = match o.1 with
      | .nx => loopF g b (post.map enc) o.2
      | .ct => loopF g b (post.map enc) o.2
      | .bk => some (.nx, o.2)
      | .rt q => some (.rt q, o.2) := by
      show ((g (enc x) ρ).bind fun ρ1 => (b ρ1).bind fun x => match x.1 with
        | .nx => loopF g b (post.map enc) x.2
        | .ct => loopF g b (post.map enc) x.2
        | .bk => some (.nx, x.2)
        | .rt q => some (.rt q, x.2)) = _
      rw [e1, Option.bind_some, e2, Option.bind_some]
    rw [eq]
    obtain ⟨o1, o2⟩ := o
    cases o1 with
    | nx => exact ih hr
    | ct => exact ih hr
    | bk => exact ⟨_, rfl, hr⟩
    | rt q => exact ⟨_, rfl, hr⟩
/-- a loop that goes on to its end -/
theorem loop_fold {σ : Type} {R : σ → Env → Prop} {step : σ → α → σ} : ∀ (xs : List α) (s : σ) (ρ : Env), (∀ x ∈ xs, ∀ s ρ, R s ρ → Ev ((g (enc x) ρ).bind b) fun r => (r.1 = .nx ∨ r.1 = .ct) ∧ R (step s x) r.2) → R s ρ → ∃ ρ', loopF g b (xs.map enc) ρ = some (.nx, ρ') ∧ R (xs.foldl step s) ρ'
  | [], s, ρ, h, h0 => ⟨ρ, rfl, h0⟩
  | x :: xs, s, ρ, h, h0 => by
    have h1 := h x (.head _) s ρ h0
    rw [Ev_bind] at h1
    obtain ⟨ρ1, e1, ⟨o1, o2⟩, e2, ho, hr⟩ := h1
    obtain ⟨ρ', e3, h3⟩ := loop_fold xs (step s x) o2 (fun y hy => h y (.tail _ hy)) hr
    refine ⟨ρ', ?_, h3⟩
    show ((g (enc x) ρ).bind fun ρ1 => (b ρ1).bind fun x => match x.1 with
        | .nx => loopF g b (xs.map enc) x.2
        | .ct => loopF g b (xs.map enc) x.2
        | .bk => some (.nx, x.2)
        | .rt q => some (.rt q, x.2)) = _
    rw [e1, Option.bind_some, e2, Option.bind_some]
    rcases ho with e | e <;> (rw [show o1 = _ from e]; exact e3)
theorem loop_pre {R : List α → Env → Prop} {xs : List α} {ρ : Env} (h : ∀ pre x post ρ, xs = pre ++ x :: post → R pre ρ → Ev ((g (enc x) ρ).bind b) fun r => (r.1 = .nx ∨ r.1 = .ct) ∧ R (pre ++ [x]) r.2) (h0 : R [] ρ) : ∃ ρ', loopF g b (xs.map enc) ρ = some (.nx, ρ') ∧ R xs ρ' := by
  obtain ⟨⟨o, ρ'⟩, e, ho, hr⟩ := loop_ev (g := g) (b := b) (enc := enc) (I := R) (Q := fun r => r.1 = .nx ∧ R xs r.2) xs [] ρ (fun pre x post ρ e hi => (h pre x post ρ e hi).mono fun r ⟨h1, h2⟩ => by
    obtain ⟨r1, r2⟩ := r
    rcases h1 with e | e
    · rw [show r1 = .nx from e]; exact h2
    · rw [show r1 = .ct from e]; exact h2) (fun ρ hi => ⟨rfl, hi⟩) h0
  exact ⟨ρ', by rw [e, show o = .nx from ho], hr⟩
theorem loop_all {R : Env → Prop} {t : α → Bool} : ∀ (xs : List α) (ρ : Env), (∀ x ∈ xs, ∀ ρ, R ρ → Ev ((g (enc x) ρ).bind b) fun r => r.1 = (if t x = true then .nx else .rt (.bl false)) ∧ R r.2) → R ρ →
    Ev (loopF g b (xs.map enc) ρ) fun r => r.1 = (if xs.all t = true then .nx else .rt (.bl false)) ∧ R r.2
  | [], ρ, _, h0 => ⟨_, rfl, rfl, h0⟩
  | x :: xs, ρ, h, h0 => by
    have h1 := h x (.head _) ρ h0
    rw [Ev_bind] at h1
    obtain ⟨ρ1, e1, o, e2, ho, hr⟩ := h1
    have ih := loop_all (R := R) (t := t) xs o.2 (fun y hy => h y (.tail _ hy)) hr
    have eq : loopF g b ((x :: xs).map enc) ρ = match o.1 with
      | .nx => loopF g b (xs.map enc) o.2
      | .ct => loopF g b (xs.map enc) o.2
      | .bk => some (.nx, o.2)
      | .rt q => some (.rt q, o.2) := by
      show ((g (enc x) ρ).bind fun ρ1 => (b ρ1).bind fun x => match x.1 with
        | .nx => loopF g b (xs.map enc) x.2
        | .ct => loopF g b (xs.map enc) x.2
        | .bk => some (.nx, x.2)
        | .rt q => some (.rt q, x.2)) = _
      rw [e1, Option.bind_some, e2, Option.bind_some]
    rw [eq]
    obtain ⟨o1, o2⟩ := o
    by_cases ht : t x = true
    · rw [if_pos ht] at ho
      have ho' : o1 = .nx := ho
      subst ho'
      simpa [ht] using ih
    · rw [if_neg ht] at ho
      have ho' : o1 = .rt (.bl false) := ho
      subst ho'
      simp [ht]
      exact hr
theorem restP_wipe (ρ : Env) : ∀ vs : List Nat, restP ρ (wipeP ρ vs) vs = ρ := fun vs => by
  apply List.ext_getElem?
  intro j
  rw [restP_get (wipeP_length _ _)]
  by_cases h : j ∈ vs
  · rw [if_pos h]
  · rw [if_neg h, wipeP_get, if_neg h]
theorem lcL_map {β : Type} {enc : α → PV} {bb : α → Bool} {e : α → PV} {ρ : Env} : ∀ {xs : List α}, (∀ x ∈ xs, ∃ ρ1, g (enc x) ρ = some ρ1 ∧ tt ρ1 = some (bb x, ρ1) ∧ (bb x = true → te ρ1 = some (e x, ρ1)) ∧ wipeP ρ1 vs = ρ) → lcL g tt te vs (xs.map enc) ρ = some ((xs.filter bb).map e, ρ)
  | [], _ => rfl
  | x :: xs, h => by
    obtain ⟨ρ1, h1, h2, h3, h4⟩ := h x (.head _)
    have ih := lcL_map (β := β) (xs := xs) fun y hy => h y (.tail _ hy)
    show ((g (enc x) ρ).bind fun ρ1 => (tt ρ1).bind fun b => if b.1 then (te b.2).bind fun y => (lcL g tt te vs (xs.map enc) (wipeP y.2 vs)).bind fun r => some (y.1 :: r.1, r.2) else lcL g tt te vs (xs.map enc) (wipeP b.2 vs)) = _
    rw [h1, Option.bind_some, h2, Option.bind_some]
    cases hb : bb x with
    | false => simp [h4, ih, hb]
    | true => simp [h3 hb, h4, ih, hb]
/-- a comprehension without deeds -/
theorem eLc_map {fi : LF} {bb : α → Bool} {e : α → PV} {xs : List α} (enc : α → PV) (hf : fi ρ = some (xs.map enc, ρ)) (h : ∀ x ∈ xs, ∃ ρ1, g (enc x) (wipeP ρ vs) = some ρ1 ∧ tt ρ1 = some (bb x, ρ1) ∧ (bb x = true → te ρ1 = some (e x, ρ1)) ∧ wipeP ρ1 vs = wipeP ρ vs) :
    eLc fi g tt te vs ρ = some (.lst ((xs.filter bb).map e), ρ) := by
  unfold eLc iLc
  rw [hf]
  show ((lcL g tt te vs (xs.map enc) (wipeP ρ vs)).bind fun r => some (r.1, restP ρ r.2 vs)).bind (fun r => some (PV.lst r.1, r.2)) = _
  rw [lcL_map (β := Unit) h]
  simp [restP_wipe]
end
end Pv

/-! Pv17: what the laws have in common: draws, take, cell, same. -/
noncomputable section
namespace Pv
open PySem PySem.Spec PyProof.Rows L2

def lc_draws1 : SF :=
  (sSeq (sAsg 6 (e2 pMod (eV 5) (e1 pLen (eV 2))))
  (sIf (tAndF (tV (e2 pGe (e2 pItem (eV 2) (eV 6)) (e2 pPow (eC (.int 10)) (eC (.int 18))))) (tV (e2 pGt (e2 pItem (eV 3) (eV 6)) (eC (.int 0)))))
  (sSeq (sDrop (eMutL 4 (eCons (e2 pMod (e1 pInt (e2 pItem (eV 3) (eV 6))) (eC (.int 1000))) eNil) gApp))
  (sSub 3 (eV 6) (e2 pFdiv (e2 pItem (eV 3) (eV 6)) (eC (.int 1000)))))
  (sSeq (sAsg 7 (e2 pMod (e1 pInt (e2 pAdd (e2 pAdd (e2 pMul (e2 pItem (eV 2) (eV 6)) (eC (.int 48271))) (e2 pMul (eV 5) (eC (.int 69621)))) (eC (.int 11)))) (eC (.int 2147483647))))
  (sDrop (eMutL 4 (eCons (e2 pMod (e1 pInt (e2 pAdd (e2 pAdd (e2 pMul (eV 7) (eV 7)) (e2 pMul (eC (.int 3)) (eV 7))) (eV 5))) (eC (.int 1000003))) eNil) gApp)))))
def bc_draws : SF :=
  (sSeq (sAsg 2 (eLc (iE (eV 0)) (gN 8) tYesF (e1 pInt (eV 8)) [8]))
  (sSeq (sIf (tV (e2 pEq (e1 pLen (eV 2)) (eC (.int 0))))
  (sDrop (eMutL 2 (eCons (eC (.int 0)) eNil) gApp))
  sNx)
  (sSeq (sAsg 3 (e1 pList (eV 2)))
  (sSeq (sAsg 4 (eLst eNil))
  (sSeq (sFor (iRg1 (eV 1)) (gN 5) lc_draws1)
  (sSeq (sDrop (eMutL 4 eNil gRev))
  (sRet (eV 4))))))))
def fnc_draws : PFn := runF 9 [.lk, .fr] bc_draws
def bc_take : SF :=
  (sSeq (sIf (tV (e2 pEq (e1 pLen (eV 0)) (eC (.int 0))))
  (sRet (eC (.int 0)))
  sNx)
  (sRet (e2 pMod (e1 pInt (eMutL 0 eNil gPop)) (eV 1))))
def fnc_take : PFn := runF 2 [.io, .fr] bc_take
def bc_cell : SF :=
  (sSeq (sIf (tV (e2 pEq (e1 pLen (eV 0)) (eC (.int 0))))
  (sRet (eC (.int 0)))
  sNx)
  (sSeq (sAsg 2 (e1 pInt (e2 pItem (eV 0) (eCall [.io, .fr] fnc_take [.sl 1, .ex (e1 pLen (eV 0))]))))
  (sRet (e2 pMul (e2 pMod (e1 pAbs (eV 2)) (e2 pPow (eC (.int 10)) (eC (.int 60)))) (e2 pItem (eLst (eCons (eC (.int 1)) (eCons (e1 pNeg (eC (.int 1))) eNil))) (e1 pInt (e2 pLt (eV 2) (eC (.int 0)))))))))
def fnc_cell : PFn := runF 3 [.lk, .io] bc_cell
def lc_same1 (fn : PFn) : SF :=
  (sIf (tNotF (tV (eCall [.fr, .fr] fn [.ex (e2 pItem (eV 0) (eV 2)), .ex (e2 pItem (eV 1) (eV 2))])))
  (sRet (eC (.bl false)))
  sNx)
def bc_same (fn : PFn) : SF :=
  (sSeq (sIf (tV (e2 pIsN (eV 1) (eC .non)))
  (sRet (e2 pIsN (eV 0) (eC .non)))
  sNx)
  (sSeq (sIf (tV (e1 (pIsI "bool") (eV 1)))
  (sRet (eAnd (e1 (pIsI "bool") (eV 0)) (e2 pEq (eV 0) (eV 1))))
  sNx)
  (sSeq (sIf (tV (e1 (pIsI "int") (eV 1)))
  (sRet (eAnd (e1 (pIsI "int") (eV 0)) (eAnd (eNot (e1 (pIsI "bool") (eV 0))) (e2 pEq (eV 0) (eV 1)))))
  sNx)
  (sSeq (sIf (tV (e1 (pIsI "str") (eV 1)))
  (sRet (eAnd (e1 (pIsI "str") (eV 0)) (e2 pEq (eV 0) (eV 1))))
  sNx)
  (sSeq (sIf (tOrF (tNotF (tV (e1 (pIsI "tuple") (eV 0)))) (tV (e2 pNe (e1 pLen (eV 0)) (e1 pLen (eV 1)))))
  (sRet (eC (.bl false)))
  sNx)
  (sSeq (sFor (iRg1 (e1 pLen (eV 1))) (gN 2) (lc_same1 fn))
  (sRet (eC (.bl true)))))))))
def fnc_same : Nat → PFn
  | 0 => fun _ => none
  | n + 1 => runF 3 [.fr, .fr] (bc_same (fnc_same n))

theorem lim_def : LIM = 16000000 := rfl
/-! ### take -/
def tkV (ds : List Int) (n : Int) : Int := match ds.getLast? with
  | none => 0
  | some d => d % n
theorem take_eq (ds : List Int) {n : Int} (hn : 0 < n) : fnc_take [.lst (ds.map .int), .int n] = some (.int (tkV ds n), [.lst (ds.dropLast.map .int), .int n]) := by
  unfold fnc_take bc_take
  rcases List.eq_nil_or_concat ds with rfl | ⟨l, d, rfl⟩
  · simp [tkV]
  · simp [tkV, hn, List.map_dropLast]
theorem tkV_bd (ds : List Int) {n : Int} (hn : 0 < n) : 0 ≤ tkV ds n ∧ tkV ds n < n := by
  unfold tkV
  split
  · omega
  · exact ⟨Int.emod_nonneg _ (by omega), Int.emod_lt_of_pos _ hn⟩
/-- in terms of naturals -/
theorem take_nat (ds : List Int) {n : Int} (hn : 0 < n) : ∃ (t : Nat) (ds' : List Int), (t : Int) < n ∧ fnc_take [.lst (ds.map .int), .int n] = some (.int t, [.lst (ds'.map .int), .int n]) := by
  obtain ⟨h1, h2⟩ := tkV_bd ds hn
  refine ⟨(tkV ds n).toNat, ds.dropLast, by omega, ?_⟩
  rw [take_eq ds hn, Int.toNat_of_nonneg h1]
/-! ### cell -/
theorem cell_eq (ns ds : List Int) : ∃ (c : Int) (ds' : List Int), (-(10 ^ 60) < c ∧ c < 10 ^ 60) ∧ fnc_cell [.lst (ns.map .int), .lst (ds.map .int)] = some (.int c, [.lst (ns.map .int), .lst (ds'.map .int)]) := by
  unfold fnc_cell bc_cell
  cases ns with
  | nil => exact ⟨0, ds, by decide, (by simp)⟩
  | cons x r =>
    obtain ⟨t, ds', ht, e⟩ := take_nat ds (n := (r.length : Int) + 1) (by omega)
    have ht' : t < (x :: r).length := by simp; omega
    have hi : (PV.int x :: r.map PV.int)[t]? = some (.int ((x :: r)[t])) := by
      rw [← List.map_cons, List.getElem?_map, List.getElem?_eq_getElem ht']; rfl
    generalize (x :: r)[t] = c at hi
    have b := Int.emod_lt_of_pos (if c < 0 then -c else c) (show (0 : Int) < 10 ^ 60 by decide)
    have b0 := Int.emod_nonneg (if c < 0 then -c else c) (show (10 : Int) ^ 60 ≠ 0 by decide)
    have hm : ∀ z : Int, mulG z 1 ∧ mulG z (-1) := fun z => ⟨.inr (.inl (by decide)), .inr (.inl (by decide))⟩
    refine ⟨((if c < 0 then -c else c) % 10 ^ 60) * (if c < 0 then -1 else 1), ds', ?_, ?_⟩
    · generalize (if c < 0 then -c else c) % (10 : Int) ^ 60 = z at *
      split <;> omega
    · by_cases h0 : c < 0
      · simp [e, hi, h0, lim_def, (hm _).1, (hm _).2]
      · simp [e, hi, h0, lim_def, (hm _).1, (hm _).2]
/-! ### same -/
mutual
/-- plain data, no list, no dict -/
def pl : Nat → PV → Bool
  | _, .non => true
  | _, .bl _ => true
  | _, .int _ => true
  | _, .str x => PyData.strOk x
  | n + 1, .tup xs => decide (xs.length ≤ 1000000) && pls n xs
  | _, _ => false
def pls : Nat → List PV → Bool
  | _, [] => true
  | n, x :: xs => pl n x && pls n xs
end
@[simp] theorem pl_non {n : Nat} : pl n .non = true := by cases n <;> rfl
@[simp] theorem pl_bl {n : Nat} {b : Bool} : pl n (.bl b) = true := by cases n <;> rfl
@[simp] theorem pl_int {n : Nat} {b : Int} : pl n (.int b) = true := by cases n <;> rfl
@[simp] theorem pl_str {n : Nat} {b : Str} : pl n (.str b) = PyData.strOk b := by cases n <;> rfl
@[simp] theorem pl_tup {n : Nat} {xs : List PV} : pl (n + 1) (.tup xs) = (decide (xs.length ≤ 1000000) && pls n xs) := by cases n <;> rfl
@[simp] theorem pls_nil {n : Nat} : pls n [] = true := by cases n <;> rfl
@[simp] theorem pls_cons {n : Nat} {x : PV} {xs : List PV} : pls n (x :: xs) = (pl n x && pls n xs) := by cases n <;> rfl
theorem pls_all {n : Nat} : ∀ {l : List PV}, pls n l = true ↔ ∀ p ∈ l, pl n p = true
  | [] => by simp
  | p :: l => by simp [pls_all (l := l)]
theorem same_refl (n : Nat) : ∀ (p : PV), pl n p = true → fnc_same (n + 1) [p, p] = some (.bl true, [p, p]) := by
  have base : ∀ (n : Nat) (p : PV), (∀ xs, p ≠ .tup xs) → pl n p = true → fnc_same (n + 1) [p, p] = some (.bl true, [p, p]) := by
    intro n p hp h
    rw [show fnc_same (n + 1) = runF 3 [.fr, .fr] (bc_same (fnc_same n)) from rfl]
    unfold bc_same
    cases p with
    | non => simp [pIsN, isN]
    | bl b =>
      have e : pIsI "bool" (.bl b) = some (.bl true) := rfl
      simp [pIsN, isN, e]
    | int b =>
      have e : pIsI "bool" (.int b) = some (.bl false) := rfl
      have e2 : pIsI "int" (.int b) = some (.bl true) := rfl
      simp [pIsN, isN, e, e2]
    | str b =>
      have e : pIsI "bool" (.str b) = some (.bl false) := rfl
      have e2 : pIsI "int" (.str b) = some (.bl false) := rfl
      have e3 : pIsI "str" (.str b) = some (.bl true) := rfl
      simp [pIsN, isN, e, e2, e3]
    | tup xs => exact absurd rfl (hp xs)
    | lst _ => cases n <;> simp [pl] at h
    | dct _ => cases n <;> simp [pl] at h
    | dtt _ => cases n <;> simp [pl] at h
  induction n with
  | zero =>
    intro p h
    refine base 0 p (fun xs e => ?_) h
    subst e
    simp [pl] at h
  | succ n ih =>
    intro p h
    by_cases hp : ∃ xs, p = .tup xs
    · obtain ⟨xs, rfl⟩ := hp
      rw [pl_tup, Bool.and_eq_true, decide_eq_true_eq] at h
      obtain ⟨hl, h⟩ := h
      have ih : ∀ i (hi : i < xs.length), fnc_same (n + 1) [xs[i], xs[i]] = some (.bl true, [xs[i], xs[i]]) := fun i hi => ih xs[i] (pls_all.mp h _ (List.getElem_mem hi))
      rw [show fnc_same (n + 1 + 1) = runF 3 [.fr, .fr] (bc_same (fnc_same (n + 1))) from rfl]
      generalize fnc_same (n + 1) = fn at *
      unfold bc_same
      have e : pIsI "bool" (.tup xs) = some (.bl false) := rfl
      have e2 : pIsI "int" (.tup xs) = some (.bl false) := rfl
      have e3 : pIsI "str" (.tup xs) = some (.bl false) := rfl
      have e4 : pIsI "tuple" (.tup xs) = some (.bl true) := rfl
      have hr : rgB 0 (xs.length : Int) = true := rgB_of (by omega)
      obtain ⟨ρ', h1, o, h2⟩ := loop_fold (σ := Unit) (R := fun _ ρ => ∃ o, ρ = [some (.tup xs), some (.tup xs), o]) (step := fun _ _ => ()) (enc := fun (i : Nat) => PV.int (i : Int)) (g := gN 2) (b := lc_same1 fn) (List.range xs.length) () [some (.tup xs), some (.tup xs), none] (fun i hi s ρ ⟨o, hρ⟩ => by
        have hi := List.mem_range.mp hi
        subst hρ
        unfold lc_same1
        simp [List.getElem?_eq_getElem hi, ih i hi]) ⟨none, rfl⟩
      subst h2
      simp [pIsN, isN, e, e2, e3, e4, hr, rgP0, h1]
    · exact base (n + 1) p (fun xs e => hp ⟨xs, e⟩) h
/-! ### draws -/
theorem mulG_r {i j : Int} (h : -(2 ^ 64) < j ∧ j < 2 ^ 64) : mulG i j := .inr (.inl h)
theorem mulG_l {i j : Int} (h : -(2 ^ 64) < i ∧ i < 2 ^ 64) : mulG i j := .inl h
theorem BJ_le : (1000000000000 : Int) < BJ := by unfold BJ; decide +kernel
end Pv

/-! Pv18: draws. -/
noncomputable section
namespace Pv
open PySem PySem.Spec PyProof.Rows L2

def uD (c x : Int) : Int := (c * 48271 + x * 69621 + 11) % 2147483647
def wD (c x : Int) : Int := (uD c x * uD c x + 3 * uD c x + x) % 1000003
theorem step1 {S : PV} {m a : Nat} {x : Int} {cs rs ds : List Int} {c d : Int} {o6 o7 o8 : Option PV} (hat : (x % (cs.length : Int)) = ((a : Nat) : Int)) (hpos : 0 < cs.length) (g1 : (cs.map PV.int)[a]? = some (.int c)) (g2 : (rs.map PV.int)[a]? = some (.int d)) (hdl : ds.length < LIM)
    (hix : ∀ v : Int, pSet (.lst (rs.map .int)) (.int a) (.int v) = some (.lst ((rs.set a v).map .int))) (hbj : (1000 : Int) < BJ) (hb : (1000000000000000000 : Int) ≤ c ∧ 0 < d) :
    lc_draws1 [some S, some (.int m), some (.lst (cs.map .int)), some (.lst (rs.map .int)), some (.lst (ds.map .int)), some (.int x), o6, o7, o8] = some (.nx, [some S, some (.int m), some (.lst (cs.map .int)), some (.lst ((rs.set a (d / 1000)).map .int)), some (.lst ((ds ++ [d % 1000]).map .int)), some (.int x), some (.int a), o7, o8]) := by
  simp [lc_draws1, hat, g1, g2, hpos, hb.1, hb.2, hdl, hix, hbj]
theorem step2 {S : PV} {m a : Nat} {x : Int} {cs rs ds : List Int} {c d : Int} {o6 o7 o8 : Option PV} (hat : (x % (cs.length : Int)) = ((a : Nat) : Int)) (hpos : 0 < cs.length) (g1 : (cs.map PV.int)[a]? = some (.int c)) (g2 : (rs.map PV.int)[a]? = some (.int d)) (hdl : ds.length < LIM)
    (m1 : mulG c 48271) (m2 : mulG x 69621) (m3 : ∀ z : Int, mulG 3 z) (m4 : ∀ z : Int, mulG (z % 2147483647) (z % 2147483647)) (hc1 : (1000000000000000000 : Int) ≤ c) (hd : ¬ 0 < d) :
    lc_draws1 [some S, some (.int m), some (.lst (cs.map .int)), some (.lst (rs.map .int)), some (.lst (ds.map .int)), some (.int x), o6, o7, o8] = some (.nx, [some S, some (.int m), some (.lst (cs.map .int)), some (.lst (rs.map .int)), some (.lst ((ds ++ [wD c x]).map .int)), some (.int x), some (.int a), some (.int (uD c x)), o8]) := by
  simp [lc_draws1, uD, wD, hat, g1, g2, hpos, hc1, hd, hdl, m1, m2, m3, m4]
theorem step3 {S : PV} {m a : Nat} {x : Int} {cs rs ds : List Int} {c d : Int} {o6 o7 o8 : Option PV} (hat : (x % (cs.length : Int)) = ((a : Nat) : Int)) (hpos : 0 < cs.length) (g1 : (cs.map PV.int)[a]? = some (.int c)) (g2 : (rs.map PV.int)[a]? = some (.int d)) (hdl : ds.length < LIM)
    (m1 : mulG c 48271) (m2 : mulG x 69621) (m3 : ∀ z : Int, mulG 3 z) (m4 : ∀ z : Int, mulG (z % 2147483647) (z % 2147483647)) (hc1 : ¬ (1000000000000000000 : Int) ≤ c) :
    lc_draws1 [some S, some (.int m), some (.lst (cs.map .int)), some (.lst (rs.map .int)), some (.lst (ds.map .int)), some (.int x), o6, o7, o8] = some (.nx, [some S, some (.int m), some (.lst (cs.map .int)), some (.lst (rs.map .int)), some (.lst ((ds ++ [wD c x]).map .int)), some (.int x), some (.int a), some (.int (uD c x)), o8]) := by
  simp [lc_draws1, uD, wD, hat, g1, g2, hpos, hc1, hdl, m1, m2, m3, m4]
theorem bj1000 : (1000 : Int) < BJ := Int.lt_trans (by decide) BJ_le
theorem mod_small (z : Int) : -(2 ^ 64) < z % 2147483647 ∧ z % 2147483647 < 2 ^ 64 := by
  have := Int.emod_lt_of_pos z (show (0 : Int) < 2147483647 by decide)
  have := Int.emod_nonneg z (show (2147483647 : Int) ≠ 0 by decide)
  omega
theorem draws_loop (S : PV) (m : Nat) (hm : m ≤ 1000000) (cs : List Int) (hne : cs ≠ []) : ∃ ds rs o5 o6 o7 o8, loopF (gN 5) lc_draws1 ((List.range m).map fun (i : Nat) => PV.int (i : Int)) [some S, some (.int m), some (.lst (cs.map .int)), some (.lst (cs.map .int)), some (.lst []), none, none, none, none] =
    some (.nx, [some S, some (.int m), some (.lst (cs.map .int)), some (.lst ((rs : List Int).map .int)), some (.lst ((ds : List Int).map .int)), o5, o6, o7, o8]) := by
  have hpos : 0 < cs.length := List.length_pos_iff.mpr hne
  obtain ⟨⟨o, ρ'⟩, hr, ho, ds, rs, o5, o6, o7, o8, hρ⟩ : Ev (loopF (gN 5) lc_draws1 ((List.range m).map fun (i : Nat) => PV.int (i : Int)) [some S, some (.int m), some (.lst (cs.map .int)), some (.lst (cs.map .int)), some (.lst []), none, none, none, none])
      fun r => r.1 = .nx ∧ ∃ (ds rs : List Int) (o5 o6 o7 o8 : Option PV), r.2 = [some S, some (.int m), some (.lst (cs.map .int)), some (.lst (rs.map .int)), some (.lst (ds.map .int)), o5, o6, o7, o8] := by
    refine loop_ev (I := fun pre ρ => ∃ (ds rs : List Int) (o5 o6 o7 o8 : Option PV), ρ = [some S, some (.int m), some (.lst (cs.map .int)), some (.lst (rs.map .int)), some (.lst (ds.map .int)), o5, o6, o7, o8] ∧ rs.length = cs.length ∧ ds.length = pre.length) (List.range m) [] _ (fun pre x post ρ e ⟨ds, rs, o5, o6, o7, o8, hρ, h1, h2⟩ => ?_) (fun ρ ⟨ds, rs, o5, o6, o7, o8, hρ, h1, h2⟩ => ⟨rfl, ds, rs, o5, o6, o7, o8, hρ⟩) ⟨[], cs, none, none, none, none, rfl, rfl, rfl⟩
    subst hρ
    have hx : pre.length < m := by
      have := congrArg List.length e
      simp at this
      omega
    have hat : ((x : Int) % (cs.length : Int)) = ((x % cs.length : Nat) : Int) := by simp
    have hlt : x % cs.length < cs.length := Nat.mod_lt _ hpos
    generalize x % cs.length = at' at hat hlt
    have g1 : (cs.map PV.int)[at']? = some (.int cs[at']) := by rw [List.getElem?_map, List.getElem?_eq_getElem hlt]; rfl
    have g2 : (rs.map PV.int)[at']? = some (.int (rs[at']'(by omega))) := by rw [List.getElem?_map, List.getElem?_eq_getElem (by omega)]; rfl
    generalize cs[at'] = c at g1
    generalize rs[at']'(by omega) = d at g2
    have hdl : ds.length < LIM := by rw [lim_def]; omega
    have hix : ∀ v : Int, pSet (.lst (rs.map .int)) (.int at') (.int v) = some (.lst ((rs.set at' v).map .int)) := fun v => by
      unfold pSet L2.ixN
      simp [h1, hlt, List.map_set]
    rw [Ev_bind]
    refine ⟨_, gN_ap, ?_⟩
    have m1 : mulG c 48271 := mulG_r (by decide)
    have m2 : mulG x 69621 := mulG_r (by decide)
    have m3 : ∀ z : Int, mulG 3 z := fun z => mulG_l (by decide)
    have m4 : ∀ z : Int, mulG (z % 2147483647) (z % 2147483647) := fun z => mulG_l (mod_small z)
    by_cases hc1 : (1000000000000000000 : Int) ≤ c
    · by_cases hd : 0 < d
      · exact ⟨_, step1 hat hpos g1 g2 hdl hix bj1000 ⟨hc1, hd⟩, ds ++ [d % 1000], rs.set at' (d / 1000), _, _, _, _, rfl, by simp [h1], by simp [h2]⟩
      · exact ⟨_, step2 hat hpos g1 g2 hdl m1 m2 m3 m4 hc1 hd, ds ++ [wD c x], rs, _, _, _, _, rfl, h1, by simp [h2]⟩
    · exact ⟨_, step3 hat hpos g1 g2 hdl m1 m2 m3 m4 hc1, ds ++ [wD c x], rs, _, _, _, _, rfl, h1, by simp [h2]⟩
  exact ⟨ds, rs, o5, o6, o7, o8, by rw [hr]; exact congrArg some (Prod.ext ho hρ)⟩
theorem draws_eq (ns : List Int) (hn : ns.length ≤ 1000) (m : Nat) (hm : m ≤ 1000000) : ∃ ds : List Int, fnc_draws [.lst (ns.map .int), .int m] = some (.lst (ds.map .int), [.lst (ns.map .int), .int m]) := by
  unfold fnc_draws bc_draws
  have hc : eLc (iE (eV 0)) (gN 8) tYesF (e1 pInt (eV 8)) [8] [some (.lst (ns.map .int)), some (.int m), none, none, none, none, none, none, none] = some (.lst (ns.map .int), [some (.lst (ns.map .int)), some (.int m), none, none, none, none, none, none, none]) := by
    have := eLc_map (fi := iE (eV 0)) (g := gN 8) (tt := tYesF) (te := e1 pInt (eV 8)) (vs := [8]) (ρ := [some (.lst (ns.map .int)), some (.int m), none, none, none, none, none, none, none]) (bb := fun _ => true) (e := PV.int) (xs := ns) PV.int (by simp) (fun x hx => by simp [wipeP])
    rw [this, List.filter_eq_self.mpr (by simp)]
  have hrb : rgB 0 (m : Int) = true := rgB_of (by omega)
  cases ns with
  | nil =>
    obtain ⟨ds, rs, o5, o6, o7, o8, hk⟩ := draws_loop (.lst []) m hm [0] (by simp)
    refine ⟨ds.reverse, ?_⟩
    simp at hk hc
    simp [hc, lim_def, hrb, rgP0, hk, List.map_reverse]
  | cons x r =>
    obtain ⟨ds, rs, o5, o6, o7, o8, hk⟩ := draws_loop (.lst ((x :: r).map .int)) m hm (x :: r) (by simp)
    refine ⟨ds.reverse, ?_⟩
    simp at hk hc
    simp [hc, lim_def, hrb, rgP0, hk, List.map_reverse]
end Pv

/-! Pv19: dicts from ints to ints; strings told apart. -/
noncomputable section
namespace Pv
open PySem PySem.Spec PyProof.Rows L2

def kk (q : Int × Int) : Key × PV := (Sum.inl q.1, .int q.2)
abbrev eK (D : List (Int × Int)) : PV := .dct (D.map kk)
def eP (q : Int × Int) : PV := .tup [.int q.1, .int q.2]
abbrev eS (S : List (Int × Int)) : PV := .tup (S.map eP)
def putI (D : List (Int × Int)) (k v : Int) : List (Int × Int) := if (D.any fun q => decide (q.1 = k)) = true then D.map (fun q => if q.1 = k then (q.1, v) else q) else D ++ [(k, v)]
def getI (D : List (Int × Int)) (k : Int) : Option Int := (D.find? fun q => decide (q.1 = k)).map (·.2)
theorem inl_iff {i j : Int} : ((Sum.inl i : Key) = Sum.inl j) ↔ i = j := ⟨fun h => by cases h; rfl, fun h => by rw [h]⟩
theorem putP_kk (D : List (Int × Int)) (k v : Int) : putP (D.map kk) (.inl k) (.int v) = (putI D k v).map kk := by
  unfold putP putI
  have e : ((D.map kk).any fun kv => decide (kv.1 = Sum.inl k)) = D.any fun q => decide (q.1 = k) := by
    induction D with
    | nil => rfl
    | cons q D ih => simp only [List.map_cons, List.any_cons, ih]; simp [kk, inl_iff]
  rw [e]
  split
  · rw [List.map_map, List.map_map]
    refine List.map_congr_left fun q _ => ?_
    by_cases h : q.1 = k
    · simp [kk, h]
    · simp [kk, h, inl_iff]
  · simp [kk]
theorem valP_kk (D : List (Int × Int)) (k : Int) : valP (D.map kk) (.inl k) = (getI D k).map PV.int := by
  unfold valP getI
  induction D with
  | nil => rfl
  | cons q D ih =>
    rw [List.map_cons, List.find?_cons, List.find?_cons]
    by_cases h : q.1 = k
    · simp [kk, h]
    · have h2 : ¬ ((kk q).1 = Sum.inl k) := by simpa [kk, inl_iff] using h
      simp only [h, h2, decide_false]
      exact ih
theorem getI_cons (q : Int × Int) (D : List (Int × Int)) (j : Int) : getI (q :: D) j = if q.1 = j then some q.2 else getI D j := by
  unfold getI
  rw [List.find?_cons]
  by_cases h : q.1 = j
  · simp [h]
  · simp [h]
theorem getI_none {D : List (Int × Int)} {j : Int} (h : (D.any fun q => decide (q.1 = j)) = false) : getI D j = none := by
  induction D with
  | nil => rfl
  | cons q D ih =>
    rw [List.any_cons, Bool.or_eq_false_iff, decide_eq_false_iff_not] at h
    rw [getI_cons, if_neg h.1, ih h.2]
theorem getI_append (D E : List (Int × Int)) (j : Int) : getI (D ++ E) j = (getI D j).or (getI E j) := by
  induction D with
  | nil => rfl
  | cons q D ih =>
    rw [List.cons_append, getI_cons, getI_cons]
    split
    · rfl
    · exact ih
theorem getI_putI (D : List (Int × Int)) (k v j : Int) : getI (putI D k v) j = if j = k then some v else getI D j := by
  unfold putI
  split
  · rename_i h
    by_cases e : j = k
    · subst e
      rw [if_pos rfl]
      induction D with
      | nil => cases h
      | cons q D ih =>
        rw [List.map_cons, getI_cons]
        by_cases hq : q.1 = j
        · simp [hq]
        · rw [List.any_cons] at h
          simp only [hq, decide_false, Bool.false_or] at h
          simp only [hq, if_false]
          exact ih h
    · rw [if_neg e]
      clear h
      induction D with
      | nil => rfl
      | cons q D ih =>
        rw [List.map_cons, getI_cons, getI_cons, ih]
        by_cases hq : q.1 = k
        · have : ¬ k = j := fun z => e z.symm
          simp [hq, this]
        · simp [hq]
  · rename_i h
    rw [getI_append]
    by_cases e : j = k
    · subst e
      rw [getI_none (Bool.eq_false_iff.mpr h)]
      simp [getI]
    · rw [if_neg e]
      have : getI [(k, v)] j = none := by
        rw [getI_cons, if_neg (fun z => e z.symm)]; rfl
      rw [this]
      simp
theorem putI_len (D : List (Int × Int)) (k v : Int) : (putI D k v).length ≤ D.length + 1 := by
  unfold putI
  split
  · rw [List.length_map]; omega
  · rw [List.length_append]; simp
theorem getI_mem {D : List (Int × Int)} {k : Int} (h : k ∈ D.map (·.1)) : ∃ v, getI D k = some v := by
  induction D with
  | nil => cases h
  | cons q D ih =>
    rw [getI_cons]
    by_cases e : q.1 = k
    · exact ⟨q.2, by rw [if_pos e]⟩
    · rw [if_neg e]
      refine ih ?_
      rcases List.mem_cons.mp h with z | z
      · exact absurd z.symm e
      · exact z
theorem intKs_kk : ∀ D : List (Int × Int), intKs (D.map kk) = some (D.map (·.1))
  | [] => rfl
  | q :: D => by
    show (intKs (D.map kk)).map (q.1 :: ·) = _
    rw [intKs_kk D]; rfl
theorem pSortI_kk {D : List (Int × Int)} (h : D.length < 64) : pSortI (eK D) = some (.lst ((isort (D.map (·.1))).map .int)) := by
  show (intKs (D.map kk)).bind _ = _
  rw [intKs_kk]
  exact if_pos (by simpa using h)
theorem intsP_map : ∀ l : List Int, intsP (l.map PV.int) = some l
  | [] => rfl
  | x :: l => by
    show (intsP (l.map PV.int)).map (x :: ·) = _
    rw [intsP_map l]; rfl
theorem pSortI_l (l : List Int) : pSortI (.lst (l.map .int)) = some (.lst ((isort l).map .int)) := by
  show (intsP (l.map PV.int)).map _ = _
  rw [intsP_map]; rfl
theorem pSortSet_l {l : List Int} (h : l.length < 64) : pSortSet (.lst (l.map .int)) = some (.lst ((sset l).map .int)) := by
  show (intsP (l.map PV.int)).bind _ = _
  rw [intsP_map]
  exact if_pos h
theorem mem_isort {l : List Int} {k : Int} : k ∈ isort l ↔ k ∈ l := (isort_perm l).mem_iff
/-- the pairs that are not 0, by their keys -/
def mkS (D : List (Int × Int)) : List (Int × Int) := ((isort (D.map (·.1))).filter fun p => (getI D p).getD 0 != 0).map fun p => (p, (getI D p).getD 0)
theorem mkS_len (D : List (Int × Int)) : (mkS D).length ≤ D.length := by
  unfold mkS
  rw [List.length_map]
  refine Nat.le_trans (List.length_filter_le _ _) ?_
  rw [isort_len, List.length_map]
  exact Nat.le_refl _
theorem pl_eS {n : Nat} {S : List (Int × Int)} (h : S.length ≤ 1000000) : pl (n + 2) (eS S) = true := by
  rw [pl_tup, Bool.and_eq_true, decide_eq_true_eq, List.length_map]
  refine ⟨h, pls_all.mpr fun p hp => ?_⟩
  obtain ⟨q, _, rfl⟩ := List.mem_map.mp hp
  simp [eP]
def setAll (D : List (Int × Int)) (L : List (Int × Int)) : List (Int × Int) := L.foldl (fun D q => putI D q.1 q.2) D
theorem setAll_len : ∀ (L D : List (Int × Int)), (setAll D L).length ≤ D.length + L.length
  | [], D => by simp [setAll]
  | q :: L, D => by
    have h1 := setAll_len L (putI D q.1 q.2)
    have h2 := putI_len D q.1 q.2
    show (setAll (putI D q.1 q.2) L).length ≤ _
    simp only [List.length_cons]; omega
theorem any_peq_int (l : List Int) (k : Int) : ((l.map PV.int).any fun z => peq z (.int k)) = decide (k ∈ l) := by
  induction l with
  | nil => simp
  | cons x l ih =>
    rw [List.map_cons, List.any_cons, ih]
    by_cases e : x = k
    · subst e; simp
    · have : (x == k) = false := by simpa using e
      have e' : ¬ k = x := fun z => e z.symm
      simp [e', this]
theorem any_peq_int2 (l : List Int) (k : Int) : (l.any ((fun z => peq z (.int k)) ∘ PV.int)) = decide (k ∈ l) := by
  rw [← any_peq_int, List.any_map]
theorem dts_ints {n : Nat} (l : List Int) : dts n (l.map PV.int) = true := by
  rw [dts_all]
  refine List.all_eq_true.mpr fun p hp => ?_
  obtain ⟨q, _, rfl⟩ := List.mem_map.mp hp
  simp
section
variable {g : GF} {tt : TF} {te tv : EF} {vs : List Nat} {ρ : Env}
theorem dcL_pairs {ρ : Env} : ∀ (S D : List (Int × Int)), (∀ q ∈ S, ∃ ρ1, g (eP q) ρ = some ρ1 ∧ tt ρ1 = some (true, ρ1) ∧ te ρ1 = some (.int q.1, ρ1) ∧ tv ρ1 = some (.int q.2, ρ1) ∧ wipeP ρ1 vs = ρ) → dcL g tt te tv vs (S.map eP) ρ (D.map kk) = some ((setAll D S).map kk, ρ)
  | [], D, _ => rfl
  | q :: S, D, h => by
    obtain ⟨ρ1, h1, h2, h3, h4, h5⟩ := h q (.head _)
    show ((g (eP q) ρ).bind fun ρ1 => (tt ρ1).bind fun b => if b.1 then (te b.2).bind fun y => (tv y.2).bind fun z => (key1 y.1).bind fun k => dcL g tt te tv vs (S.map eP) (wipeP z.2 vs) (putP (D.map kk) k z.1) else dcL g tt te tv vs (S.map eP) (wipeP b.2 vs) (D.map kk)) = _
    simp only [h1, h2, h3, h4, h5, Option.bind_some, if_true, key1_i, putP_kk]
    exact dcL_pairs S _ fun q hq => h q (.tail _ hq)
theorem eDc_pairs {fi : LF} {S : List (Int × Int)} (hf : fi ρ = some (S.map eP, ρ)) (h : ∀ q ∈ S, ∃ ρ1, g (eP q) (wipeP ρ vs) = some ρ1 ∧ tt ρ1 = some (true, ρ1) ∧ te ρ1 = some (.int q.1, ρ1) ∧ tv ρ1 = some (.int q.2, ρ1) ∧ wipeP ρ1 vs = wipeP ρ vs) :
    eDc fi g tt te tv vs ρ = some (eK (setAll [] S), ρ) := by
  unfold eDc
  rw [hf]
  show ((dcL g tt te tv vs (S.map eP) (wipeP ρ vs) ([].map kk)).bind fun r => some (PV.dct r.1, restP ρ r.2 vs)) = _
  rw [dcL_pairs S [] h]
  simp [restP_wipe]
end
theorem setAll_snoc (D L : List (Int × Int)) (q : Int × Int) : setAll D (L ++ [q]) = putI (setAll D L) q.1 q.2 := by
  unfold setAll
  rw [List.foldl_append]; rfl
/-- what stands there last -/
theorem getI_setAll (L : List (Int × Int)) (p : Int) : ((getI (setAll [] L) p).getD 0) = ((0 :: (L.filter fun q => decide (q.1 = p)).map (·.2)).getLast (List.cons_ne_nil _ _)) := by
  rcases List.eq_nil_or_concat L with rfl | ⟨L', q, rfl⟩
  · rfl
  · have ih := getI_setAll L' p
    rw [List.concat_eq_append, setAll_snoc, getI_putI]
    by_cases e : p = q.1
    · have : ∀ (x : Int) (l : List Int) (y : Int) (h : x :: (l ++ [y]) ≠ []), (x :: (l ++ [y])).getLast h = y := fun x l y h => by
        rw [List.getLast_cons (by simp)]; exact List.getLast_concat
      simp [e, this]
    · have e' : ¬ q.1 = p := fun z => e z.symm
      simp [e, e', ih]
termination_by L.length
decreasing_by subst_vars; simp
/-! slices -/
theorem cutP_take {xs : List PV} {k : Nat} (h : k ≤ xs.length) : cutP xs none (some (k : Int)) = xs.take k := by
  unfold cutP
  rw [HT.sIx_none, HT.sIx_nat]
  simp [Nat.min_eq_left h]
theorem cutP_drop {xs : List PV} {k : Nat} (h : k ≤ xs.length) : cutP xs (some (k : Int)) none = xs.drop k := by
  unfold cutP
  rw [HT.sIx_none, HT.sIx_nat, Nat.min_eq_left h]
  exact List.take_of_length_le (by rw [List.length_drop]; exact Nat.le_refl _)
theorem cutP_mid {xs : List PV} {j k : Nat} (hj : j ≤ xs.length) (h : k ≤ xs.length) : cutP xs (some (j : Int)) (some (k : Int)) = (xs.drop j).take (k - j) := by
  unfold cutP
  rw [HT.sIx_nat, HT.sIx_nat, Nat.min_eq_left h, Nat.min_eq_left hj]
theorem cutP_2 {xs : List PV} (h : 2 ≤ xs.length) : cutP xs (some 2) none = xs.drop 2 := cutP_drop (k := 2) h
theorem atI_neg1 {α : Type} (l : List α) (h : l ≠ []) : atI l (-1) = some (l.getLast h) := by
  rcases List.eq_nil_or_concat l with rfl | ⟨l', q, rfl⟩
  · exact absurd rfl h
  · have := atI_last l' q
    simpa using this
/-- down to 0 -/
theorem rgC_down (n : Nat) (hn : n ≤ 1000000) : rg3B ((n : Int) - 1) (-1) (-1) = true ∧ rgC ((n : Int) - 1) (-1) (Builtin.Range.rangeSize ((n : Int) - 1) (-1) (-1)).toNat = (List.range n).map fun (i : Nat) => PV.int ((n - 1 - i : Nat) : Int) := by
  have hr : Builtin.Range.rangeSize ((n : Int) - 1) (-1) (-1) = n := by
    rw [PySem.W.rangeSize_downNat]; omega
  constructor
  · unfold rg3B
    rw [hr, PySem.W.small_down (by omega) (by omega) (by omega) (by omega)]
    simp [lim_def]
    omega
  · rw [hr]
    unfold rgC
    refine List.map_congr_left fun i hi => ?_
    have := List.mem_range.mp hi
    congr 1
    omega
end Pv

noncomputable section
namespace K40
open PySem PySem.Spec PyProof.Rows L2 Pv
def top (i : Nat) : Stmt := PySem.Challenge.pw_spanslocked_k40_journals_line_by_line.main.body.getD i (.Pass ⟨0, 0, 0, 0⟩)
abbrev s_as_pairs : Stmt := top 1
theorem sc_as_pairs : FnScope ["values", "place"] ["values"] (defScope s_as_pairs) := ⟨rfl, rfl, rfl, by decide +kernel, rfl, by decide +kernel, by decide +kernel⟩
abbrev ks_as_pairs : List Kd := [.fr]
def b_as_pairs : SF :=
  (sRet (e1 pTuple (eLc (iE (e1 pSortI (eV 0))) (gN 1) (tV (e2 pNe (e2 pItem (eV 0) (eV 1)) (eC (.int 0)))) (eTup (eCons (eV 1) (eCons (e2 pItem (eV 0) (eV 1)) eNil))) [1])))
def fn_as_pairs : PFn := runF 2 ks_as_pairs b_as_pairs
abbrev s_ended_in : Stmt := top 2
theorem sc_ended_in : FnScope ["journal", "deed"] ["journal"] (defScope s_ended_in) := ⟨rfl, rfl, rfl, by decide +kernel, rfl, by decide +kernel, by decide +kernel⟩
abbrev ks_ended_in : List Kd := [.fr]
def b_ended_in : SF :=
  (sRet (e1 pTuple (e1 pSortSet (eLc (iE (eV 0)) (gN 1) (tV (e2 pEq (e2 pItem (eV 1) (eC (.int 1))) (eC (.str "end")))) (e2 pItem (eV 1) (eC (.int 0))) [1]))))
def fn_ended_in : PFn := runF 2 ks_ended_in b_ended_in
abbrev s_redone_store : Stmt := top 3
theorem sc_redone_store : FnScope ["journal", "ended", "found", "deed"] ["journal"] (defScope s_redone_store) := ⟨rfl, rfl, rfl, by decide +kernel, rfl, by decide +kernel, by decide +kernel⟩
abbrev ks_redone_store : List Kd := [.fr]
def l_redone_store1 : SF :=
  (sIf (tAndF (tV (e2 pEq (e2 pItem (eV 3) (eC (.int 1))) (eC (.str "set")))) (tV (e2 pIn (e2 pItem (eV 3) (eC (.int 0))) (eV 1))))
  (sSub 2 (e2 pItem (eV 3) (eC (.int 2))) (e2 pItem (eV 3) (eC (.int 3))))
  sNx)
def b_redone_store : SF :=
  (sSeq (sAsg 1 (eCall [.fr] fn_ended_in [.ex (eV 0)]))
  (sSeq (sAsg 2 (eC (.dct [])))
  (sSeq (sFor (iE (eV 0)) (gN 3) l_redone_store1)
  (sRet (eCall [.fr] fn_as_pairs [.ex (eV 2)])))))
def fn_redone_store : PFn := runF 4 ks_redone_store b_redone_store
abbrev s_values_ahead : Stmt := top 4
theorem sc_values_ahead : FnScope ["journal", "last", "found", "deed"] ["journal"] (defScope s_values_ahead) := ⟨rfl, rfl, rfl, by decide +kernel, rfl, by decide +kernel, by decide +kernel⟩
abbrev ks_values_ahead : List Kd := [.fr]
def l_values_ahead1 : SF :=
  (sSeq (sDrop (eMutL 2 (eCons (eIf (tV (e2 pEq (e2 pItem (eV 3) (eC (.int 1))) (eC (.str "set")))) (eGet2 (eV 1) (e2 pItem (eV 3) (eC (.int 2))) (eC (.int 0))) (eC (.int 0))) eNil) gApp))
  (sIf (tV (e2 pEq (e2 pItem (eV 3) (eC (.int 1))) (eC (.str "set"))))
  (sSub 1 (e2 pItem (eV 3) (eC (.int 2))) (e2 pItem (eV 3) (eC (.int 3))))
  sNx))
def b_values_ahead : SF :=
  (sSeq (sAsg 1 (eC (.dct [])))
  (sSeq (sAsg 2 (eLst eNil))
  (sSeq (sFor (iE (eV 0)) (gN 3) l_values_ahead1)
  (sRet (eV 2)))))
def fn_values_ahead : PFn := runF 4 ks_values_ahead b_values_ahead
abbrev s_undone_store : Stmt := top 5
theorem sc_undone_store : FnScope ["store", "journal", "ended", "ahead", "found", "at", "place", "value"] ["store", "journal"] (defScope s_undone_store) := ⟨rfl, rfl, rfl, by decide +kernel, rfl, by decide +kernel, by decide +kernel⟩
abbrev ks_undone_store : List Kd := [.fr, .fr]
def l_undone_store1 : SF :=
  (sIf (tAndF (tV (e2 pEq (e2 pItem (e2 pItem (eV 1) (eV 5)) (eC (.int 1))) (eC (.str "set")))) (tV (e2 pNotIn (e2 pItem (e2 pItem (eV 1) (eV 5)) (eC (.int 0))) (eV 2))))
  (sSub 4 (e2 pItem (e2 pItem (eV 1) (eV 5)) (eC (.int 2))) (e2 pItem (eV 3) (eV 5)))
  sNx)
def b_undone_store : SF :=
  (sSeq (sAsg 2 (eCall [.fr] fn_ended_in [.ex (eV 1)]))
  (sSeq (sAsg 3 (eCall [.fr] fn_values_ahead [.ex (eV 1)]))
  (sSeq (sAsg 4 (eDc (iE (eV 0)) (gT' 2 (gsC (gN 6) (gsC (gN 7) gsN))) tYesF (eV 6) (eV 7) [6, 7]))
  (sSeq (sFor (iRg3 (e2 pSub (e1 pLen (eV 1)) (eC (.int 1))) (e1 pNeg (eC (.int 1))) (e1 pNeg (eC (.int 1)))) (gN 5) l_undone_store1)
  (sRet (eCall [.fr] fn_as_pairs [.ex (eV 4)]))))))
def fn_undone_store : PFn := runF 8 ks_undone_store b_undone_store
abbrev s_recovered_store : Stmt := top 6
theorem sc_recovered_store : FnScope ["store", "journal", "found", "deed", "place", "value"] ["store", "journal"] (defScope s_recovered_store) := ⟨rfl, rfl, rfl, by decide +kernel, rfl, by decide +kernel, by decide +kernel⟩
abbrev ks_recovered_store : List Kd := [.fr, .fr]
def l_recovered_store1 : SF :=
  (sIf (tV (e2 pEq (e2 pItem (eV 3) (eC (.int 1))) (eC (.str "set"))))
  (sSub 2 (e2 pItem (eV 3) (eC (.int 2))) (e2 pItem (eV 3) (eC (.int 3))))
  sNx)
def b_recovered_store : SF :=
  (sSeq (sAsg 2 (eDc (iE (eV 0)) (gT' 2 (gsC (gN 4) (gsC (gN 5) gsN))) tYesF (eV 4) (eV 5) [4, 5]))
  (sSeq (sFor (iE (eV 1)) (gN 3) l_recovered_store1)
  (sRet (eCall [.fr, .fr] fn_undone_store [.ex (eCall [.fr] fn_as_pairs [.ex (eV 2)]), .ex (eV 1)]))))
def fn_recovered_store : PFn := runF 6 ks_recovered_store b_recovered_store
abbrev s_is_strict : Stmt := top 7
theorem sc_is_strict : FnScope ["journal", "open_sets", "deed", "asker", "place"] ["journal"] (defScope s_is_strict) := ⟨rfl, rfl, rfl, by decide +kernel, rfl, by decide +kernel, by decide +kernel⟩
abbrev ks_is_strict : List Kd := [.fr]
def l_is_strict1 : SF :=
  (sIf (tV (e2 pEq (e2 pItem (eV 2) (eC (.int 1))) (eC (.str "end"))))
  (sAsg 1 (eLc (iE (eV 1)) (gT' 2 (gsC (gN 3) (gsC (gN 4) gsN))) (tV (e2 pNe (eV 3) (e2 pItem (eV 2) (eC (.int 0))))) (eTup (eCons (eV 3) (eCons (eV 4) eNil))) [3, 4]))
  (sIf (tV (e1 pAny (eLc (iE (eV 1)) (gT' 2 (gsC (gN 3) (gsC (gN 4) gsN))) tYesF (eAnd (e2 pEq (eV 4) (e2 pItem (eV 2) (eC (.int 2)))) (e2 pNe (eV 3) (e2 pItem (eV 2) (eC (.int 0))))) [3, 4])))
  (sRet (eC (.bl false)))
  (sDrop (eMutL 1 (eCons (eTup (eCons (e2 pItem (eV 2) (eC (.int 0))) (eCons (e2 pItem (eV 2) (eC (.int 2))) eNil))) eNil) gApp))))
def b_is_strict : SF :=
  (sSeq (sAsg 1 (eLst eNil))
  (sSeq (sFor (iE (eV 0)) (gN 2) l_is_strict1)
  (sRet (eC (.bl true)))))
def fn_is_strict : PFn := runF 5 ks_is_strict b_is_strict
abbrev s_can_be_left : Stmt := top 8
theorem sc_can_be_left : FnScope ["store", "journal", "told", "deed", "pair"] ["store", "journal"] (defScope s_can_be_left) := ⟨rfl, rfl, rfl, by decide +kernel, rfl, by decide +kernel, by decide +kernel⟩
abbrev ks_can_be_left : List Kd := [.fr, .fr]
def b_can_be_left : SF :=
  (sSeq (sAsg 2 (eLc (iE (eV 1)) (gN 3) (tV (e2 pEq (e2 pItem (eV 3) (eC (.int 1))) (eC (.str "set")))) (eTup (eCons (e2 pItem (eV 3) (eC (.int 2))) (eCons (e2 pItem (eV 3) (eC (.int 3))) eNil))) [3]))
  (sRet (e1 pAll (eLc (iE (eV 0)) (gN 4) tYesF (e2 pIn (eV 4) (eV 2)) [4]))))
def fn_can_be_left : PFn := runF 5 ks_can_be_left b_can_be_left
abbrev s_short_journal : Stmt := top 9
theorem sc_short_journal : FnScope ["journal", "ended", "deed"] ["journal"] (defScope s_short_journal) := ⟨rfl, rfl, rfl, by decide +kernel, rfl, by decide +kernel, by decide +kernel⟩
abbrev ks_short_journal : List Kd := [.fr]
def b_short_journal : SF :=
  (sSeq (sAsg 1 (eCall [.fr] fn_ended_in [.ex (eV 0)]))
  (sRet (e1 pTuple (eLc (iE (eV 0)) (gN 2) (tV (e2 pNotIn (e2 pItem (eV 2) (eC (.int 0))) (eV 1))) (eV 2) [2]))))
def fn_short_journal : PFn := runF 3 ks_short_journal b_short_journal
abbrev s_law_draws : Stmt := top 11
theorem sc_law_draws : FnScope ["script", "many", "cells", "rest", "drawn", "k", "at", "once", "cell"] ["script", "many"] (defScope s_law_draws) := ⟨rfl, rfl, rfl, by decide +kernel, rfl, by decide +kernel, by decide +kernel⟩
abbrev ks_law_draws : List Kd := [.lk, .fr]
def l_law_draws1 : SF :=
  (sSeq (sAsg 6 (e2 pMod (eV 5) (e1 pLen (eV 2))))
  (sIf (tAndF (tV (e2 pGe (e2 pItem (eV 2) (eV 6)) (e2 pPow (eC (.int 10)) (eC (.int 18))))) (tV (e2 pGt (e2 pItem (eV 3) (eV 6)) (eC (.int 0)))))
  (sSeq (sDrop (eMutL 4 (eCons (e2 pMod (e1 pInt (e2 pItem (eV 3) (eV 6))) (eC (.int 1000))) eNil) gApp))
  (sSub 3 (eV 6) (e2 pFdiv (e2 pItem (eV 3) (eV 6)) (eC (.int 1000)))))
  (sSeq (sAsg 7 (e2 pMod (e1 pInt (e2 pAdd (e2 pAdd (e2 pMul (e2 pItem (eV 2) (eV 6)) (eC (.int 48271))) (e2 pMul (eV 5) (eC (.int 69621)))) (eC (.int 11)))) (eC (.int 2147483647))))
  (sDrop (eMutL 4 (eCons (e2 pMod (e1 pInt (e2 pAdd (e2 pAdd (e2 pMul (eV 7) (eV 7)) (e2 pMul (eC (.int 3)) (eV 7))) (eV 5))) (eC (.int 1000003))) eNil) gApp)))))
def b_law_draws : SF :=
  (sSeq (sAsg 2 (eLc (iE (eV 0)) (gN 8) tYesF (e1 pInt (eV 8)) [8]))
  (sSeq (sIf (tV (e2 pEq (e1 pLen (eV 2)) (eC (.int 0))))
  (sDrop (eMutL 2 (eCons (eC (.int 0)) eNil) gApp))
  sNx)
  (sSeq (sAsg 3 (e1 pList (eV 2)))
  (sSeq (sAsg 4 (eLst eNil))
  (sSeq (sFor (iRg1 (eV 1)) (gN 5) l_law_draws1)
  (sSeq (sDrop (eMutL 4 eNil gRev))
  (sRet (eV 4))))))))
def fn_law_draws : PFn := runF 9 ks_law_draws b_law_draws
abbrev s_law_take : Stmt := top 12
theorem sc_law_take : FnScope ["draws", "many"] ["draws", "many"] (defScope s_law_take) := ⟨rfl, rfl, rfl, by decide +kernel, rfl, by decide +kernel, by decide +kernel⟩
abbrev ks_law_take : List Kd := [.io, .fr]
def b_law_take : SF :=
  (sSeq (sIf (tV (e2 pEq (e1 pLen (eV 0)) (eC (.int 0))))
  (sRet (eC (.int 0)))
  sNx)
  (sRet (e2 pMod (e1 pInt (eMutL 0 eNil gPop)) (eV 1))))
def fn_law_take : PFn := runF 2 ks_law_take b_law_take
abbrev s_law_cell : Stmt := top 13
theorem sc_law_cell : FnScope ["script", "draws", "cell"] ["script", "draws"] (defScope s_law_cell) := ⟨rfl, rfl, rfl, by decide +kernel, rfl, by decide +kernel, by decide +kernel⟩
abbrev ks_law_cell : List Kd := [.lk, .io]
def b_law_cell : SF :=
  (sSeq (sIf (tV (e2 pEq (e1 pLen (eV 0)) (eC (.int 0))))
  (sRet (eC (.int 0)))
  sNx)
  (sSeq (sAsg 2 (e1 pInt (e2 pItem (eV 0) (eCall [.io, .fr] fn_law_take [.sl 1, .ex (e1 pLen (eV 0))]))))
  (sRet (e2 pMul (e2 pMod (e1 pAbs (eV 2)) (e2 pPow (eC (.int 10)) (eC (.int 60)))) (e2 pItem (eLst (eCons (eC (.int 1)) (eCons (e1 pNeg (eC (.int 1))) eNil))) (e1 pInt (e2 pLt (eV 2) (eC (.int 0)))))))))
def fn_law_cell : PFn := runF 3 ks_law_cell b_law_cell
abbrev s_law_same : Stmt := top 14
theorem sc_law_same : FnScope ["actual", "due", "k"] ["actual", "due"] (defScope s_law_same) := ⟨rfl, rfl, rfl, by decide +kernel, rfl, by decide +kernel, by decide +kernel⟩
abbrev ks_law_same : List Kd := [.fr, .fr]
def l_law_same1 (fn : PFn) : SF :=
  (sIf (tNotF (tV (eCall [.fr, .fr] fn [.ex (e2 pItem (eV 0) (eV 2)), .ex (e2 pItem (eV 1) (eV 2))])))
  (sRet (eC (.bl false)))
  sNx)
def b_law_same (fn : PFn) : SF :=
  (sSeq (sIf (tV (e2 pIsN (eV 1) (eC .non)))
  (sRet (e2 pIsN (eV 0) (eC .non)))
  sNx)
  (sSeq (sIf (tV (e1 (pIsI "bool") (eV 1)))
  (sRet (eAnd (e1 (pIsI "bool") (eV 0)) (e2 pEq (eV 0) (eV 1))))
  sNx)
  (sSeq (sIf (tV (e1 (pIsI "int") (eV 1)))
  (sRet (eAnd (e1 (pIsI "int") (eV 0)) (eAnd (eNot (e1 (pIsI "bool") (eV 0))) (e2 pEq (eV 0) (eV 1)))))
  sNx)
  (sSeq (sIf (tV (e1 (pIsI "str") (eV 1)))
  (sRet (eAnd (e1 (pIsI "str") (eV 0)) (e2 pEq (eV 0) (eV 1))))
  sNx)
  (sSeq (sIf (tOrF (tNotF (tV (e1 (pIsI "tuple") (eV 0)))) (tV (e2 pNe (e1 pLen (eV 0)) (e1 pLen (eV 1)))))
  (sRet (eC (.bl false)))
  sNx)
  (sSeq (sFor (iRg1 (e1 pLen (eV 1))) (gN 2) (l_law_same1 fn))
  (sRet (eC (.bl true)))))))))
def fn_law_same : Nat → PFn
  | 0 => fun _ => none
  | n + 1 => runF 3 ks_law_same (b_law_same (fn_law_same n))
abbrev s_law_journal : Stmt := top 15
theorem sc_law_journal : FnScope ["draws", "script", "most", "askers", "places", "scale", "found", "k", "asker"] ["draws", "script", "most"] (defScope s_law_journal) := ⟨rfl, rfl, rfl, by decide +kernel, rfl, by decide +kernel, by decide +kernel⟩
abbrev ks_law_journal : List Kd := [.io, .lk, .fr]
def l_law_journal1 : SF :=
  (sSeq (sAsg 8 (eCall [.io, .fr] fn_law_take [.sl 0, .ex (eV 3)]))
  (sIf (tV (e2 pEq (eCall [.io, .fr] fn_law_take [.sl 0, .ex (eC (.int 4))]) (eC (.int 0))))
  (sDrop (eMutL 6 (eCons (eTup (eCons (eV 8) (eCons (eC (.str "end")) eNil))) eNil) gApp))
  (sDrop (eMutL 6 (eCons (eTup (eCons (eV 8) (eCons (eC (.str "set")) (eCons (eCall [.io, .fr] fn_law_take [.sl 0, .ex (eV 4)]) (eCons (e2 pMul (e2 pSub (eCall [.io, .fr] fn_law_take [.sl 0, .ex (eC (.int 5))]) (eC (.int 1))) (eV 5)) eNil))))) eNil) gApp))))
def b_law_journal : SF :=
  (sSeq (sAsg 3 (e2 pAdd (eC (.int 1)) (eCall [.io, .fr] fn_law_take [.sl 0, .ex (eC (.int 3))])))
  (sSeq (sAsg 4 (e2 pAdd (eC (.int 1)) (eCall [.io, .fr] fn_law_take [.sl 0, .ex (eC (.int 3))])))
  (sSeq (sAsg 5 (e2 pItem (eLst (eCons (eC (.int 1)) (eCons (eC (.int 1)) (eCons (e2 pAdd (eC (.int 1)) (e1 pAbs (eCall [.lk, .io] fn_law_cell [.sl 1, .sl 0]))) eNil)))) (eCall [.io, .fr] fn_law_take [.sl 0, .ex (eC (.int 3))])))
  (sSeq (sAsg 6 (eLst eNil))
  (sSeq (sFor (iRg1 (eCall [.io, .fr] fn_law_take [.sl 0, .ex (e2 pAdd (eV 2) (eC (.int 1)))])) (gN 7) l_law_journal1)
  (sRet (e1 pTuple (eV 6))))))))
def fn_law_journal : PFn := runF 9 ks_law_journal b_law_journal
abbrev s_law_pairs : Stmt := top 16
theorem sc_law_pairs : FnScope ["values", "place"] ["values"] (defScope s_law_pairs) := ⟨rfl, rfl, rfl, by decide +kernel, rfl, by decide +kernel, by decide +kernel⟩
abbrev ks_law_pairs : List Kd := [.fr]
def b_law_pairs : SF :=
  (sRet (e1 pTuple (eLc (iE (e1 pSortI (eV 0))) (gN 1) (tV (e2 pNe (e2 pItem (eV 0) (eV 1)) (eC (.int 0)))) (eTup (eCons (eV 1) (eCons (e2 pItem (eV 0) (eV 1)) eNil))) [1])))
def fn_law_pairs : PFn := runF 2 ks_law_pairs b_law_pairs
abbrev s_law_ended : Stmt := top 17
theorem sc_law_ended : FnScope ["journal", "deed"] ["journal"] (defScope s_law_ended) := ⟨rfl, rfl, rfl, by decide +kernel, rfl, by decide +kernel, by decide +kernel⟩
abbrev ks_law_ended : List Kd := [.fr]
def b_law_ended : SF :=
  (sRet (e1 pSortSet (eLc (iE (eV 0)) (gN 1) (tV (e2 pEq (e2 pItem (eV 1) (eC (.int 1))) (eC (.str "end")))) (e2 pItem (eV 1) (eC (.int 0))) [1])))
def fn_law_ended : PFn := runF 2 ks_law_ended b_law_ended
abbrev s_law_store : Stmt := top 18
theorem sc_law_store : FnScope ["draws", "journal", "found", "deed"] ["draws", "journal"] (defScope s_law_store) := ⟨rfl, rfl, rfl, by decide +kernel, rfl, by decide +kernel, by decide +kernel⟩
abbrev ks_law_store : List Kd := [.io, .fr]
def l_law_store1 : SF :=
  (sIf (tAndF (tV (e2 pEq (e2 pItem (eV 3) (eC (.int 1))) (eC (.str "set")))) (tV (e2 pEq (eCall [.io, .fr] fn_law_take [.sl 0, .ex (eC (.int 2))]) (eC (.int 0)))))
  (sSub 2 (e2 pItem (eV 3) (eC (.int 2))) (e2 pItem (eV 3) (eC (.int 3))))
  sNx)
def b_law_store : SF :=
  (sSeq (sAsg 2 (eC (.dct [])))
  (sSeq (sFor (iE (eV 1)) (gN 3) l_law_store1)
  (sSeq (sIf (tV (e2 pEq (eCall [.io, .fr] fn_law_take [.sl 0, .ex (eC (.int 3))]) (eC (.int 0))))
  (sSub 2 (eCall [.io, .fr] fn_law_take [.sl 0, .ex (eC (.int 5))]) (eCall [.io, .fr] fn_law_take [.sl 0, .ex (eC (.int 5))]))
  sNx)
  (sRet (eCall [.fr] fn_law_pairs [.ex (eV 2)])))))
def fn_law_store : PFn := runF 4 ks_law_store b_law_store
abbrev s_law_undone : Stmt := top 19
theorem sc_law_undone : FnScope ["store", "journal", "ended", "values", "place", "value", "back", "at", "ahead", "deed"] ["store", "journal"] (defScope s_law_undone) := ⟨rfl, rfl, rfl, by decide +kernel, rfl, by decide +kernel, by decide +kernel⟩
abbrev ks_law_undone : List Kd := [.fr, .fr]
def l_law_undone1 : SF :=
  (sSub 3 (eV 4) (eV 5))
def l_law_undone2 : SF :=
  (sSeq (sAsg 7 (e2 pSub (e1 pLen (eV 1)) (eV 6)))
  (sIf (tAndF (tV (e2 pEq (e2 pItem (e2 pItem (eV 1) (eV 7)) (eC (.int 1))) (eC (.str "set")))) (tV (e2 pNotIn (e2 pItem (e2 pItem (eV 1) (eV 7)) (eC (.int 0))) (eV 2))))
  (sSeq (sAsg 8 (eLc (iE (eSl (eV 1) oN (oS (eV 7)))) (gN 9) (tAndF (tV (e2 pEq (e2 pItem (eV 9) (eC (.int 1))) (eC (.str "set")))) (tV (e2 pEq (e2 pItem (eV 9) (eC (.int 2))) (e2 pItem (e2 pItem (eV 1) (eV 7)) (eC (.int 2)))))) (e2 pItem (eV 9) (eC (.int 3))) [9]))
  (sSub 3 (e2 pItem (e2 pItem (eV 1) (eV 7)) (eC (.int 2))) (e2 pItem (e2 pAdd (eLst (eCons (eC (.int 0)) eNil)) (eV 8)) (e1 pNeg (eC (.int 1))))))
  sNx))
def b_law_undone : SF :=
  (sSeq (sAsg 2 (eCall [.fr] fn_law_ended [.ex (eV 1)]))
  (sSeq (sAsg 3 (eC (.dct [])))
  (sSeq (sFor (iE (eV 0)) (gT' 2 (gsC (gN 4) (gsC (gN 5) gsN))) l_law_undone1)
  (sSeq (sFor (iRg2 (eC (.int 1)) (e2 pAdd (e1 pLen (eV 1)) (eC (.int 1)))) (gN 6) l_law_undone2)
  (sRet (eCall [.fr] fn_law_pairs [.ex (eV 3)]))))))
def fn_law_undone : PFn := runF 10 ks_law_undone b_law_undone
abbrev s_law_made : Stmt := top 20
theorem sc_law_made : FnScope ["store", "journal", "askers", "values", "place", "value", "deed"] ["store", "journal", "askers"] (defScope s_law_made) := ⟨rfl, rfl, rfl, by decide +kernel, rfl, by decide +kernel, by decide +kernel⟩
abbrev ks_law_made : List Kd := [.fr, .fr, .fr]
def l_law_made1 : SF :=
  (sSub 3 (eV 4) (eV 5))
def l_law_made2 : SF :=
  (sIf (tAndF (tV (e2 pEq (e2 pItem (eV 6) (eC (.int 1))) (eC (.str "set")))) (tV (e2 pIn (e2 pItem (eV 6) (eC (.int 0))) (eV 2))))
  (sSub 3 (e2 pItem (eV 6) (eC (.int 2))) (e2 pItem (eV 6) (eC (.int 3))))
  sNx)
def b_law_made : SF :=
  (sSeq (sAsg 3 (eC (.dct [])))
  (sSeq (sFor (iE (eV 0)) (gT' 2 (gsC (gN 4) (gsC (gN 5) gsN))) l_law_made1)
  (sSeq (sFor (iE (eV 1)) (gN 6) l_law_made2)
  (sRet (eCall [.fr] fn_law_pairs [.ex (eV 3)])))))
def fn_law_made : PFn := runF 7 ks_law_made b_law_made
abbrev s_law_strict : Stmt := top 21
theorem sc_law_strict : FnScope ["journal", "at", "ahead", "other"] ["journal"] (defScope s_law_strict) := ⟨rfl, rfl, rfl, by decide +kernel, rfl, by decide +kernel, by decide +kernel⟩
abbrev ks_law_strict : List Kd := [.fr]
def l_law_strict1 : SF :=
  (sSeq (sAsg 3 (e2 pItem (eV 0) (eV 2)))
  (sIf (tAndF (tV (e2 pEq (e2 pItem (eV 3) (eC (.int 1))) (eC (.str "set")))) (tAndF (tV (e2 pEq (e2 pItem (eV 3) (eC (.int 2))) (e2 pItem (e2 pItem (eV 0) (eV 1)) (eC (.int 2))))) (tAndF (tV (e2 pNe (e2 pItem (eV 3) (eC (.int 0))) (e2 pItem (e2 pItem (eV 0) (eV 1)) (eC (.int 0))))) (tV (e2 pNotIn (eTup (eCons (e2 pItem (eV 3) (eC (.int 0))) (eCons (eC (.str "end")) eNil))) (eSl (eV 0) (oS (eV 2)) (oS (eV 1))))))))
  (sRet (eC (.bl false)))
  sNx))
def l_law_strict2 : SF :=
  (sIf (tV (e2 pEq (e2 pItem (e2 pItem (eV 0) (eV 1)) (eC (.int 1))) (eC (.str "set"))))
  (sFor (iRg1 (eV 1)) (gN 2) l_law_strict1)
  sNx)
def b_law_strict : SF :=
  (sSeq (sFor (iRg1 (e1 pLen (eV 0))) (gN 1) l_law_strict2)
  (sRet (eC (.bl true))))
def fn_law_strict : PFn := runF 4 ks_law_strict b_law_strict
abbrev s_law_is_told : Stmt := top 22
theorem sc_law_is_told : FnScope ["draws", "journal", "ended", "every", "k", "store", "left", "deed", "pair"] ["draws", "journal"] (defScope s_law_is_told) := ⟨rfl, rfl, rfl, by decide +kernel, rfl, by decide +kernel, by decide +kernel⟩
abbrev ks_law_is_told : List Kd := [.io, .fr]
def l_law_is_told1 : SF :=
  (sSeq (sAsg 5 (eCall [.io, .fr] fn_law_store [.sl 0, .ex (eV 1)]))
  (sSeq (sAsg 6 (e2 pEq (e1 pLen (eLc (iE (eV 5)) (gN 8) (tV (e2 pEq (e1 pLen (eLc (iE (eV 1)) (gN 7) (tAndF (tV (e2 pEq (e2 pItem (eV 7) (eC (.int 1))) (eC (.str "set")))) (tV (e2 pEq (eSl (eV 7) (oS (eC (.int 2))) oN) (eV 8)))) (eV 7) [7])) (eC (.int 0)))) (eV 8) [8])) (eC (.int 0))))
  (sSeq (sIf (tOrF (tNotF (tV (eCall [.fr, .fr] (fn_law_same 6) [.ex (eCall [.fr, .fr] fn_undone_store [.ex (eV 5), .ex (eV 1)]), .ex (eCall [.fr, .fr] fn_law_undone [.ex (eV 5), .ex (eV 1)])]))) (tNotF (tV (eCall [.fr, .fr] (fn_law_same 6) [.ex (eCall [.fr, .fr] fn_can_be_left [.ex (eV 5), .ex (eV 1)]), .ex (eV 6)]))))
  (sRet (eC (.bl false)))
  sNx)
  (sIf (tNotF (tV (eCall [.fr, .fr] (fn_law_same 6) [.ex (eCall [.fr, .fr] fn_recovered_store [.ex (eV 5), .ex (eV 1)]), .ex (eCall [.fr, .fr] fn_law_undone [.ex (eCall [.fr, .fr, .fr] fn_law_made [.ex (eV 5), .ex (eV 1), .ex (eV 3)]), .ex (eV 1)])])))
  (sRet (eC (.bl false)))
  sNx))))
def b_law_is_told : SF :=
  (sSeq (sAsg 2 (eCall [.fr] fn_law_ended [.ex (eV 1)]))
  (sSeq (sAsg 3 (e1 pSortSet (eLc (iE (eV 1)) (gN 7) tYesF (e2 pItem (eV 7) (eC (.int 0))) [7])))
  (sSeq (sIf (tOrF (tNotF (tV (eCall [.fr, .fr] (fn_law_same 6) [.ex (eCall [.fr] fn_ended_in [.ex (eV 1)]), .ex (e1 pTuple (eV 2))]))) (tOrF (tNotF (tV (eCall [.fr, .fr] (fn_law_same 6) [.ex (eCall [.fr] fn_redone_store [.ex (eV 1)]), .ex (eCall [.fr, .fr, .fr] fn_law_made [.ex (eTup eNil), .ex (eV 1), .ex (eV 2)])]))) (tNotF (tV (eCall [.fr, .fr] (fn_law_same 6) [.ex (eCall [.fr] fn_is_strict [.ex (eV 1)]), .ex (eCall [.fr] fn_law_strict [.ex (eV 1)])])))))
  (sRet (eC (.bl false)))
  sNx)
  (sSeq (sIf (tNotF (tV (eCall [.fr, .fr] (fn_law_same 6) [.ex (eCall [.fr] fn_short_journal [.ex (eV 1)]), .ex (e1 pTuple (eLc (iE (eV 1)) (gN 7) (tV (e2 pNotIn (e2 pItem (eV 7) (eC (.int 0))) (eV 2))) (eV 7) [7]))])))
  (sRet (eC (.bl false)))
  sNx)
  (sSeq (sFor (iRg1 (eC (.int 3))) (gN 4) l_law_is_told1)
  (sRet (eC (.bl true))))))))
def fn_law_is_told : PFn := runF 9 ks_law_is_told b_law_is_told
abbrev s_law : Stmt := top 23
theorem sc_law : FnScope ["script", "draws", "turn", "few", "good"] ["script"] (defScope s_law) := ⟨rfl, rfl, rfl, by decide +kernel, rfl, by decide +kernel, by decide +kernel⟩
abbrev ks_law : List Kd := [.lk]
def l_law1 : SF :=
  (sIf (tNotF (tV (eCall [.io, .fr] fn_law_is_told [.sl 1, .ex (eCall [.io, .lk, .fr] fn_law_journal [.sl 1, .sl 0, .ex (e2 pItem (eLst (eCons (eC (.int 6)) (eCons (eC (.int 14)) eNil))) (eV 2))])])))
  (sRet (eC (.bl false)))
  sNx)
def b_law : SF :=
  (sSeq (sAsg 1 (eCall [.lk, .fr] fn_law_draws [.sl 0, .ex (eC (.int 200))]))
  (sSeq (sFor (iRg1 (eC (.int 2))) (gN 2) l_law1)
  (sSeq (sAsg 3 (eTup (eCons (eTup (eCons (eC (.int 0)) (eCons (eC (.str "set")) (eCons (eC (.int 5)) (eCons (eC (.int 1)) eNil))))) (eCons (eTup (eCons (eC (.int 1)) (eCons (eC (.str "set")) (eCons (eC (.int 5)) (eCons (eC (.int 2)) eNil))))) (eCons (eTup (eCons (eC (.int 1)) (eCons (eC (.str "end")) eNil))) (eCons (eTup (eCons (eC (.int 0)) (eCons (eC (.str "set")) (eCons (eC (.int 6)) (eCons (eC (.int 3)) eNil))))) (eCons (eTup (eCons (eC (.int 2)) (eCons (eC (.str "set")) (eCons (eC (.int 5)) (eCons (eC (.int 4)) eNil))))) eNil)))))))
  (sSeq (sIf (tOrF (tNotF (tV (eCall [.fr, .fr] (fn_law_same 6) [.ex (eCall [.fr] fn_redone_store [.ex (eV 3)]), .ex (eTup (eCons (eTup (eCons (eC (.int 5)) (eCons (eC (.int 2)) eNil))) eNil))]))) (tOrF (tNotF (tV (eCall [.fr, .fr] (fn_law_same 6) [.ex (eCall [.fr, .fr] fn_undone_store [.ex (eTup (eCons (eTup (eCons (eC (.int 5)) (eCons (eC (.int 4)) eNil))) (eCons (eTup (eCons (eC (.int 6)) (eCons (eC (.int 3)) eNil))) eNil))), .ex (eV 3)]), .ex (eTup eNil)]))) (tNotF (tV (eCall [.fr, .fr] (fn_law_same 6) [.ex (eCall [.fr] fn_is_strict [.ex (eV 3)]), .ex (eC (.bl false))])))))
  (sRet (eC (.bl false)))
  sNx)
  (sSeq (sIf (tOrF (tNotF (tV (eCall [.fr, .fr] (fn_law_same 6) [.ex (eCall [.fr, .fr] fn_recovered_store [.ex (eTup (eCons (eTup (eCons (eC (.int 7)) (eCons (eC (.int 9)) eNil))) eNil)), .ex (eV 3)]), .ex (eTup (eCons (eTup (eCons (eC (.int 7)) (eCons (eC (.int 9)) eNil))) eNil))]))) (tOrF (tNotF (tV (eCall [.fr, .fr] (fn_law_same 6) [.ex (eCall [.fr, .fr] fn_can_be_left [.ex (eTup (eCons (eTup (eCons (eC (.int 5)) (eCons (eC (.int 1)) eNil))) (eCons (eTup (eCons (eC (.int 6)) (eCons (eC (.int 3)) eNil))) eNil))), .ex (eV 3)]), .ex (eC (.bl true))]))) (tNotF (tV (eCall [.fr, .fr] (fn_law_same 6) [.ex (eCall [.fr, .fr] fn_can_be_left [.ex (eTup (eCons (eTup (eCons (eC (.int 5)) (eCons (eC (.int 3)) eNil))) eNil)), .ex (eV 3)]), .ex (eC (.bl false))])))))
  (sRet (eC (.bl false)))
  sNx)
  (sSeq (sAsg 4 (eTup (eCons (eTup (eCons (eC (.int 0)) (eCons (eC (.str "set")) (eCons (eC (.int 5)) (eCons (eC (.int 1)) eNil))))) (eCons (eTup (eCons (eC (.int 0)) (eCons (eC (.str "end")) eNil))) (eCons (eTup (eCons (eC (.int 1)) (eCons (eC (.str "set")) (eCons (eC (.int 5)) (eCons (eC (.int 2)) eNil))))) (eCons (eTup (eCons (eC (.int 1)) (eCons (eC (.str "set")) (eCons (eC (.int 6)) (eCons (eC (.int 2)) eNil))))) eNil))))))
  (sSeq (sIf (tOrF (tNotF (tV (eCall [.fr, .fr] (fn_law_same 6) [.ex (eCall [.fr] fn_is_strict [.ex (eV 4)]), .ex (eC (.bl true))]))) (tOrF (tNotF (tV (eCall [.fr, .fr] (fn_law_same 6) [.ex (eCall [.fr, .fr] fn_recovered_store [.ex (eTup eNil), .ex (eV 4)]), .ex (eTup (eCons (eTup (eCons (eC (.int 5)) (eCons (eC (.int 1)) eNil))) eNil))]))) (tNotF (tV (eCall [.fr, .fr] (fn_law_same 6) [.ex (eCall [.fr] fn_short_journal [.ex (eV 4)]), .ex (eSl (eV 4) (oS (eC (.int 2))) oN)])))))
  (sRet (eC (.bl false)))
  sNx)
  (sRet (eAnd (eCall [.io, .fr] fn_law_is_told [.sl 1, .ex (eV 3)]) (eAnd (eCall [.io, .fr] fn_law_is_told [.sl 1, .ex (eV 4)]) (eCall [.fr, .fr] (fn_law_same 6) [.ex (eCall [.fr, .fr] fn_can_be_left [.ex (eTup eNil), .ex (eTup eNil)]), .ex (eC (.bl true))])))))))))))
def fn_law : PFn := runF 5 ks_law b_law
structure Tb (K : PySem.W.Frag) (mg : Str → Option Value) (fa : Nat → Addr) (fd : Nat → FuncData) : Prop where
  f_as_pairs : Fun K "as_pairs" "as_pairs" s_as_pairs (fa 0) (fd 0)
  b_as_pairs : Binds K (fd 0) ["values"] []
  m_as_pairs : mg "as_pairs" = some (.ref (fa 0))
  f_ended_in : Fun K "ended_in" "ended_in" s_ended_in (fa 1) (fd 1)
  b_ended_in : Binds K (fd 1) ["journal"] []
  m_ended_in : mg "ended_in" = some (.ref (fa 1))
  f_redone_store : Fun K "redone_store" "redone_store" s_redone_store (fa 2) (fd 2)
  b_redone_store : Binds K (fd 2) ["journal"] []
  m_redone_store : mg "redone_store" = some (.ref (fa 2))
  f_values_ahead : Fun K "values_ahead" "values_ahead" s_values_ahead (fa 3) (fd 3)
  b_values_ahead : Binds K (fd 3) ["journal"] []
  m_values_ahead : mg "values_ahead" = some (.ref (fa 3))
  f_undone_store : Fun K "undone_store" "undone_store" s_undone_store (fa 4) (fd 4)
  b_undone_store : Binds K (fd 4) ["store", "journal"] []
  m_undone_store : mg "undone_store" = some (.ref (fa 4))
  f_recovered_store : Fun K "recovered_store" "recovered_store" s_recovered_store (fa 5) (fd 5)
  b_recovered_store : Binds K (fd 5) ["store", "journal"] []
  m_recovered_store : mg "recovered_store" = some (.ref (fa 5))
  f_is_strict : Fun K "is_strict" "is_strict" s_is_strict (fa 6) (fd 6)
  b_is_strict : Binds K (fd 6) ["journal"] []
  m_is_strict : mg "is_strict" = some (.ref (fa 6))
  f_can_be_left : Fun K "can_be_left" "can_be_left" s_can_be_left (fa 7) (fd 7)
  b_can_be_left : Binds K (fd 7) ["store", "journal"] []
  m_can_be_left : mg "can_be_left" = some (.ref (fa 7))
  f_short_journal : Fun K "short_journal" "short_journal" s_short_journal (fa 8) (fd 8)
  b_short_journal : Binds K (fd 8) ["journal"] []
  m_short_journal : mg "short_journal" = some (.ref (fa 8))
  f_law_draws : Fun K "_law_draws" "_law_draws" s_law_draws (fa 9) (fd 9)
  b_law_draws : Binds K (fd 9) ["script", "many"] []
  m_law_draws : mg "_law_draws" = some (.ref (fa 9))
  f_law_take : Fun K "_law_take" "_law_take" s_law_take (fa 10) (fd 10)
  b_law_take : Binds K (fd 10) ["draws", "many"] []
  m_law_take : mg "_law_take" = some (.ref (fa 10))
  f_law_cell : Fun K "_law_cell" "_law_cell" s_law_cell (fa 11) (fd 11)
  b_law_cell : Binds K (fd 11) ["script", "draws"] []
  m_law_cell : mg "_law_cell" = some (.ref (fa 11))
  f_law_same : Fun K "_law_same" "_law_same" s_law_same (fa 12) (fd 12)
  b_law_same : Binds K (fd 12) ["actual", "due"] []
  m_law_same : mg "_law_same" = some (.ref (fa 12))
  f_law_journal : Fun K "_law_journal" "_law_journal" s_law_journal (fa 13) (fd 13)
  b_law_journal : Binds K (fd 13) ["draws", "script", "most"] []
  m_law_journal : mg "_law_journal" = some (.ref (fa 13))
  f_law_pairs : Fun K "_law_pairs" "_law_pairs" s_law_pairs (fa 14) (fd 14)
  b_law_pairs : Binds K (fd 14) ["values"] []
  m_law_pairs : mg "_law_pairs" = some (.ref (fa 14))
  f_law_ended : Fun K "_law_ended" "_law_ended" s_law_ended (fa 15) (fd 15)
  b_law_ended : Binds K (fd 15) ["journal"] []
  m_law_ended : mg "_law_ended" = some (.ref (fa 15))
  f_law_store : Fun K "_law_store" "_law_store" s_law_store (fa 16) (fd 16)
  b_law_store : Binds K (fd 16) ["draws", "journal"] []
  m_law_store : mg "_law_store" = some (.ref (fa 16))
  f_law_undone : Fun K "_law_undone" "_law_undone" s_law_undone (fa 17) (fd 17)
  b_law_undone : Binds K (fd 17) ["store", "journal"] []
  m_law_undone : mg "_law_undone" = some (.ref (fa 17))
  f_law_made : Fun K "_law_made" "_law_made" s_law_made (fa 18) (fd 18)
  b_law_made : Binds K (fd 18) ["store", "journal", "askers"] []
  m_law_made : mg "_law_made" = some (.ref (fa 18))
  f_law_strict : Fun K "_law_strict" "_law_strict" s_law_strict (fa 19) (fd 19)
  b_law_strict : Binds K (fd 19) ["journal"] []
  m_law_strict : mg "_law_strict" = some (.ref (fa 19))
  f_law_is_told : Fun K "_law_is_told" "_law_is_told" s_law_is_told (fa 20) (fd 20)
  b_law_is_told : Binds K (fd 20) ["draws", "journal"] []
  m_law_is_told : mg "_law_is_told" = some (.ref (fa 20))
  f_law : Fun K "law" "law" s_law (fa 21) (fd 21)
  b_law : Binds K (fd 21) ["script"] []
  m_law : mg "law" = some (.ref (fa 21))
  z_abs : mg "abs" = none
  z_all : mg "all" = none
  z_any : mg "any" = none
  z_bool : mg "bool" = none
  z_int : mg "int" = none
  z_isinstance : mg "isinstance" = none
  z_len : mg "len" = none
  z_list : mg "list" = none
  z_range : mg "range" = none
  z_set : mg "set" = none
  z_sorted : mg "sorted" = none
  z_str : mg "str" = none
  z_tuple : mg "tuple" = none
section
variable {P : Program} {w : World} {K : PySem.W.Frag} {mg : Str → Option Value} {base : Heap} {fa : Nat → Addr} {fd : Nat → FuncData}
theorem ok_as_pairs (T : Tb K mg fa fd) : FnOk P w K mg base CX0 1 (fa 0) (fd 0) ["values"] (spF ks_as_pairs false fn_as_pairs) := by
  refine fn_pv (O' := []) (Ob := []) (m := false) T.f_as_pairs sc_as_pairs rfl rfl (fun cdv A outer s H E hr => ?_)
  have S := sc_as_pairs
  have hu : (A.deeper (envOfC "as_pairs" (defScope s_as_pairs) s.heap.objs.size (fa 0) cdv)).units + 65 < cLine := by have := hr.un; omega
  have hu1 : (A.deeper (envOfC "as_pairs" (defScope s_as_pairs) s.heap.objs.size (fa 0) cdv)).units + 1 < cLine := by omega
  have hu4 : (A.deeper (envOfC "as_pairs" (defScope s_as_pairs) s.heap.objs.size (fa 0) cdv)).units + 64 < cLine := by omega
  exact (rs_one (rs_ret (re_ct1 (m := false) c_tuple T.z_tuple (by decide +kernel) (rr_of (re_lc S.nd (ri_of (rr_of (re_cb1 (m := false) (c_sortI rfl) T.z_sorted (by decide +kernel) (rr_of (re_v 0))))) (blkOk_by (own := [("place", 1)]) (by show blkC ["values", "place"] (defScope s_as_pairs) _ _ = true; decide +kernel)) rfl (fun _ _ _ _ _ => (rg_n 1 S.nd)) (fun _ _ _ _ _ => (rts_one (rt_cmp (o_ne hu4) (rr_of (re_item hu (rr_of (re_v 0)) (rr_of (re_v 1)))) (rr_of (re_int (m := false)))))) (fun _ _ _ _ _ => (re_tup (m := false) (ra_cons (re_v 1) (ra_cons (re_item hu (rr_of (re_v 0)) (rr_of (re_v 1))) ra_nil)))))))))
theorem ok_ended_in (T : Tb K mg fa fd) : FnOk P w K mg base CX0 1 (fa 1) (fd 1) ["journal"] (spF ks_ended_in false fn_ended_in) := by
  refine fn_pv (O' := []) (Ob := []) (m := false) T.f_ended_in sc_ended_in rfl rfl (fun cdv A outer s H E hr => ?_)
  have S := sc_ended_in
  have hu : (A.deeper (envOfC "ended_in" (defScope s_ended_in) s.heap.objs.size (fa 1) cdv)).units + 65 < cLine := by have := hr.un; omega
  have hu1 : (A.deeper (envOfC "ended_in" (defScope s_ended_in) s.heap.objs.size (fa 1) cdv)).units + 1 < cLine := by omega
  have hu4 : (A.deeper (envOfC "ended_in" (defScope s_ended_in) s.heap.objs.size (fa 1) cdv)).units + 64 < cLine := by omega
  exact (rs_one (rs_ret (re_ct1 (m := false) c_tuple T.z_tuple (by decide +kernel) (rr_of (re_sortSet T.z_sorted T.z_set (rr_of (re_lc S.nd (ri_of (rr_of (re_v 0))) (blkOk_by (own := [("deed", 1)]) (by show blkC ["journal", "deed"] (defScope s_ended_in) _ _ = true; decide +kernel)) rfl (fun _ _ _ _ _ => (rg_n 1 S.nd)) (fun _ _ _ _ _ => (rts_one (rt_cmp (o_eq hu4) (rr_of (re_item hu (rr_of (re_v 1)) (rr_of (re_int (m := false))))) (rr_of (re_str (m := false)))))) (fun _ _ _ _ _ => (re_item hu (rr_of (re_v 1)) (rr_of (re_int (m := false))))))))))))
theorem ok_redone_store (T : Tb K mg fa fd) : FnOk P w K mg base CX0 2 (fa 2) (fd 2) ["journal"] (spF ks_redone_store false fn_redone_store) := by
  refine fn_pv (O' := []) (Ob := []) (m := false) T.f_redone_store sc_redone_store rfl rfl (fun cdv A outer s H E hr => ?_)
  have S := sc_redone_store
  have hu : (A.deeper (envOfC "redone_store" (defScope s_redone_store) s.heap.objs.size (fa 2) cdv)).units + 65 < cLine := by have := hr.un; omega
  have hu1 : (A.deeper (envOfC "redone_store" (defScope s_redone_store) s.heap.objs.size (fa 2) cdv)).units + 1 < cLine := by omega
  have hu4 : (A.deeper (envOfC "redone_store" (defScope s_redone_store) s.heap.objs.size (fa 2) cdv)).units + 64 < cLine := by omega
  exact (rs_seq (rs_setF 1 (re_call (ks := [.fr]) (fn := fn_ended_in) (ok_ended_in T) (hr.mono (by decide)) T.m_ended_in T.f_ended_in.kp T.b_ended_in (ras_e (re_v 0) ras_nil)) S.nd)
  (rs_seq (rs_setM 2 re_dict0 S.nd)
  (rs_seq (rs_for (vs := [3]) (ri_of (rr_of (re_v 0))) (rg_n 3 S.nd)
  (rs_one (rs_if ((rw_and (rt_cmp (o_eq hu4) (rr_of (re_item hu (rr_of (re_v 3)) (rr_of (re_int (m := false))))) (rr_of (re_str (m := false)))) (rw_and1 (rt_cmp (o_in hu) (rr_of (re_item hu (rr_of (re_v 3)) (rr_of (re_int (m := false))))) (rr_of (re_v 1)))))).t
  (rs_one (rs_sub 2 hu (re_item hu (rr_of (re_v 3)) (rr_of (re_int (m := false)))) (re_item hu (rr_of (re_v 3)) (rr_of (re_int (m := false))))))
  rs_nil)))
  (rss_frz 2 (rs_one (rs_ret (re_call (ks := [.fr]) (fn := fn_as_pairs) (ok_as_pairs T) (hr.mono (by decide)) T.m_as_pairs T.f_as_pairs.kp T.b_as_pairs (ras_e (re_v 2) ras_nil))))))))
theorem ok_values_ahead (T : Tb K mg fa fd) : FnOk P w K mg base CX0 1 (fa 3) (fd 3) ["journal"] (spF ks_values_ahead false fn_values_ahead) := by
  refine fn_pv (O' := []) (Ob := []) (m := false) T.f_values_ahead sc_values_ahead rfl rfl (fun cdv A outer s H E hr => ?_)
  have S := sc_values_ahead
  have hu : (A.deeper (envOfC "values_ahead" (defScope s_values_ahead) s.heap.objs.size (fa 3) cdv)).units + 65 < cLine := by have := hr.un; omega
  have hu1 : (A.deeper (envOfC "values_ahead" (defScope s_values_ahead) s.heap.objs.size (fa 3) cdv)).units + 1 < cLine := by omega
  have hu4 : (A.deeper (envOfC "values_ahead" (defScope s_values_ahead) s.heap.objs.size (fa 3) cdv)).units + 64 < cLine := by omega
  exact (rs_seq (rs_setM 1 re_dict0 S.nd)
  (rs_seq (rs_setM 2 (re_lst ra_nil) S.nd)
  (rs_seq (rs_for (vs := [3]) (ri_of (rr_of (re_v 0))) (rg_n 3 S.nd)
  (rs_seq (rs_expr (re_append 2 (re_if (rt_cmp (o_eq hu4) (rr_of (re_item hu (rr_of (re_v 3)) (rr_of (re_int (m := false))))) (rr_of (re_str (m := false)))) (re_dget2 (rr_v 1) (re_item hu (rr_of (re_v 3)) (rr_of (re_int (m := false)))) (re_int (m := false)) hu1) (re_int (m := false)))))
  (rs_one (rs_if (rt_cmp (o_eq hu4) (rr_of (re_item hu (rr_of (re_v 3)) (rr_of (re_int (m := false))))) (rr_of (re_str (m := false))))
  (rs_one (rs_sub 1 hu (re_item hu (rr_of (re_v 3)) (rr_of (re_int (m := false)))) (re_item hu (rr_of (re_v 3)) (rr_of (re_int (m := false))))))
  rs_nil))))
  (rss_frz 2 (rs_one (rs_ret (re_v 2)))))))
theorem ok_undone_store (T : Tb K mg fa fd) : FnOk P w K mg base CX0 2 (fa 4) (fd 4) ["store", "journal"] (spF ks_undone_store false fn_undone_store) := by
  refine fn_pv (O' := []) (Ob := []) (m := false) T.f_undone_store sc_undone_store rfl rfl (fun cdv A outer s H E hr => ?_)
  have S := sc_undone_store
  have hu : (A.deeper (envOfC "undone_store" (defScope s_undone_store) s.heap.objs.size (fa 4) cdv)).units + 65 < cLine := by have := hr.un; omega
  have hu1 : (A.deeper (envOfC "undone_store" (defScope s_undone_store) s.heap.objs.size (fa 4) cdv)).units + 1 < cLine := by omega
  have hu4 : (A.deeper (envOfC "undone_store" (defScope s_undone_store) s.heap.objs.size (fa 4) cdv)).units + 64 < cLine := by omega
  exact (rs_seq (rs_setF 2 (re_call (ks := [.fr]) (fn := fn_ended_in) (ok_ended_in T) (hr.mono (by decide)) T.m_ended_in T.f_ended_in.kp T.b_ended_in (ras_e (re_v 1) ras_nil)) S.nd)
  (rs_seq (rs_setF 3 (re_call (ks := [.fr]) (fn := fn_values_ahead) (ok_values_ahead T) (hr.mono (by decide)) T.m_values_ahead T.f_values_ahead.kp T.b_values_ahead (ras_e (re_v 1) ras_nil)) S.nd)
  (rs_seq (rs_setDc 4 S.nd (ri_of (rr_of (re_v 0))) (blkOk_by (own := [("place", 6), ("value", 7)]) (by show blkC ["store", "journal", "ended", "ahead", "found", "at", "place", "value"] (defScope s_undone_store) _ _ = true; decide +kernel)) rfl (fun _ _ _ _ _ => (rg_t (rgs_cons (rg_n 6 S.nd) (rgs_cons (rg_n 7 S.nd) rgs_nil)))) (fun _ _ _ _ _ => rts_nil) (fun _ _ _ _ _ => (re_v 6)) (fun _ _ _ _ _ => (re_v 7)) (hsw := sw_trueD rfl rfl rfl (by decide +kernel)))
  (rs_seq (rs_for (vs := [5]) (ri_rg3 T.z_range (re_op2 (m := false) o_sub (rr_of (re_cb1 (m := false) c_len T.z_len (by decide +kernel) (rr_of (re_v 1)))) (rr_of (re_int (m := false)))) (re_un (m := false) o_neg (rr_of (re_int (m := false)))) (re_un (m := false) o_neg (rr_of (re_int (m := false))))) (rg_n 5 S.nd)
  (rs_one (rs_if ((rw_and (rt_cmp (o_eq hu4) (rr_of (re_item hu (rr_of (re_item hu (rr_of (re_v 1)) (rr_of (re_v 5)))) (rr_of (re_int (m := false))))) (rr_of (re_str (m := false)))) (rw_and1 (rt_cmp (o_notIn hu) (rr_of (re_item hu (rr_of (re_item hu (rr_of (re_v 1)) (rr_of (re_v 5)))) (rr_of (re_int (m := false))))) (rr_of (re_v 2)))))).t
  (rs_one (rs_sub 4 hu (re_item hu (rr_of (re_v 3)) (rr_of (re_v 5))) (re_item hu (rr_of (re_item hu (rr_of (re_v 1)) (rr_of (re_v 5)))) (rr_of (re_int (m := false))))))
  rs_nil)))
  (rss_frz 4 (rs_one (rs_ret (re_call (ks := [.fr]) (fn := fn_as_pairs) (ok_as_pairs T) (hr.mono (by decide)) T.m_as_pairs T.f_as_pairs.kp T.b_as_pairs (ras_e (re_v 4) ras_nil)))))))))
theorem ok_recovered_store (T : Tb K mg fa fd) : FnOk P w K mg base CX0 3 (fa 5) (fd 5) ["store", "journal"] (spF ks_recovered_store false fn_recovered_store) := by
  refine fn_pv (O' := []) (Ob := []) (m := false) T.f_recovered_store sc_recovered_store rfl rfl (fun cdv A outer s H E hr => ?_)
  have S := sc_recovered_store
  have hu : (A.deeper (envOfC "recovered_store" (defScope s_recovered_store) s.heap.objs.size (fa 5) cdv)).units + 65 < cLine := by have := hr.un; omega
  have hu1 : (A.deeper (envOfC "recovered_store" (defScope s_recovered_store) s.heap.objs.size (fa 5) cdv)).units + 1 < cLine := by omega
  have hu4 : (A.deeper (envOfC "recovered_store" (defScope s_recovered_store) s.heap.objs.size (fa 5) cdv)).units + 64 < cLine := by omega
  exact (rs_seq (rs_setDc 2 S.nd (ri_of (rr_of (re_v 0))) (blkOk_by (own := [("place", 4), ("value", 5)]) (by show blkC ["store", "journal", "found", "deed", "place", "value"] (defScope s_recovered_store) _ _ = true; decide +kernel)) rfl (fun _ _ _ _ _ => (rg_t (rgs_cons (rg_n 4 S.nd) (rgs_cons (rg_n 5 S.nd) rgs_nil)))) (fun _ _ _ _ _ => rts_nil) (fun _ _ _ _ _ => (re_v 4)) (fun _ _ _ _ _ => (re_v 5)) (hsw := sw_trueD rfl rfl rfl (by decide +kernel)))
  (rs_seq (rs_for (vs := [3]) (ri_of (rr_of (re_v 1))) (rg_n 3 S.nd)
  (rs_one (rs_if (rt_cmp (o_eq hu4) (rr_of (re_item hu (rr_of (re_v 3)) (rr_of (re_int (m := false))))) (rr_of (re_str (m := false))))
  (rs_one (rs_sub 2 hu (re_item hu (rr_of (re_v 3)) (rr_of (re_int (m := false)))) (re_item hu (rr_of (re_v 3)) (rr_of (re_int (m := false))))))
  rs_nil)))
  (rss_frz 2 (rs_one (rs_ret (re_call (ks := [.fr, .fr]) (fn := fn_undone_store) (ok_undone_store T) (hr.mono (by decide)) T.m_undone_store T.f_undone_store.kp T.b_undone_store (ras_e (re_call (ks := [.fr]) (fn := fn_as_pairs) (ok_as_pairs T) (hr.mono (by decide)) T.m_as_pairs T.f_as_pairs.kp T.b_as_pairs (ras_e (re_v 2) ras_nil)) (ras_e (re_v 1) ras_nil))))))))
theorem ok_is_strict (T : Tb K mg fa fd) : FnOk P w K mg base CX0 1 (fa 6) (fd 6) ["journal"] (spF ks_is_strict false fn_is_strict) := by
  refine fn_pv (O' := []) (Ob := []) (m := false) T.f_is_strict sc_is_strict rfl rfl (fun cdv A outer s H E hr => ?_)
  have S := sc_is_strict
  have hu : (A.deeper (envOfC "is_strict" (defScope s_is_strict) s.heap.objs.size (fa 6) cdv)).units + 65 < cLine := by have := hr.un; omega
  have hu1 : (A.deeper (envOfC "is_strict" (defScope s_is_strict) s.heap.objs.size (fa 6) cdv)).units + 1 < cLine := by omega
  have hu4 : (A.deeper (envOfC "is_strict" (defScope s_is_strict) s.heap.objs.size (fa 6) cdv)).units + 64 < cLine := by omega
  exact (rs_seq (rs_setM 1 (re_lst ra_nil) S.nd)
  (rs_seq (rs_for (vs := [2]) (ri_of (rr_of (re_v 0))) (rg_n 2 S.nd)
  (rs_one (rs_if (rt_cmp (o_eq hu4) (rr_of (re_item hu (rr_of (re_v 2)) (rr_of (re_int (m := false))))) (rr_of (re_str (m := false))))
  (rs_one (rs_setLc 1 S.nd (ri_of (rr_v 1)) (blkOk_by (own := [("asker", 3), ("place", 4)]) (by show blkC ["journal", "open_sets", "deed", "asker", "place"] (defScope s_is_strict) _ _ = true; decide +kernel)) rfl (fun _ _ _ _ _ => (rg_t (rgs_cons (rg_n 3 S.nd) (rgs_cons (rg_n 4 S.nd) rgs_nil)))) (fun _ _ _ _ _ => (rts_one (rt_cmp (o_ne hu4) (rr_of (re_v 3)) (rr_of (re_item hu (rr_of (re_v 2)) (rr_of (re_int (m := false)))))))) (fun _ _ _ _ _ => (re_tup (m := false) (ra_cons (re_v 3) (ra_cons (re_v 4) ra_nil)))) (hsw := sw_true rfl rfl rfl (by decide +kernel))))
  (rs_one (rs_if (rt_v (re_cb1 (m := false) (c_any rfl) T.z_any (by decide +kernel) (rr_of (re_lc S.nd (ri_of (rr_v 1)) (blkOk_by (own := [("asker", 3), ("place", 4)]) (by show blkC ["journal", "open_sets", "deed", "asker", "place"] (defScope s_is_strict) _ _ = true; decide +kernel)) rfl (fun _ _ _ _ _ => (rg_t (rgs_cons (rg_n 3 S.nd) (rgs_cons (rg_n 4 S.nd) rgs_nil)))) (fun _ _ _ _ _ => rts_nil) (fun _ _ _ _ _ => (re_and (re_cmp (m := false) (o_eq hu4) (rr_of (re_v 4)) (rr_of (re_item hu (rr_of (re_v 2)) (rr_of (re_int (m := false)))))) (re_one (re_cmp (m := false) (o_ne hu4) (rr_of (re_v 3)) (rr_of (re_item hu (rr_of (re_v 2)) (rr_of (re_int (m := false)))))))))))))
  (rs_one (rs_ret (re_bl (m := false))))
  (rs_one (rs_expr (re_append 1 (re_tup (m := false) (ra_cons (re_item hu (rr_of (re_v 2)) (rr_of (re_int (m := false)))) (ra_cons (re_item hu (rr_of (re_v 2)) (rr_of (re_int (m := false)))) ra_nil)))))))))))
  (rs_one (rs_ret (re_bl (m := false))))))
theorem ok_can_be_left (T : Tb K mg fa fd) : FnOk P w K mg base CX0 1 (fa 7) (fd 7) ["store", "journal"] (spF ks_can_be_left false fn_can_be_left) := by
  refine fn_pv (O' := []) (Ob := []) (m := false) T.f_can_be_left sc_can_be_left rfl rfl (fun cdv A outer s H E hr => ?_)
  have S := sc_can_be_left
  have hu : (A.deeper (envOfC "can_be_left" (defScope s_can_be_left) s.heap.objs.size (fa 7) cdv)).units + 65 < cLine := by have := hr.un; omega
  have hu1 : (A.deeper (envOfC "can_be_left" (defScope s_can_be_left) s.heap.objs.size (fa 7) cdv)).units + 1 < cLine := by omega
  have hu4 : (A.deeper (envOfC "can_be_left" (defScope s_can_be_left) s.heap.objs.size (fa 7) cdv)).units + 64 < cLine := by omega
  exact (rs_seq (rs_setF 2 (re_lc S.nd (ri_of (rr_of (re_v 1))) (blkOk_by (own := [("deed", 3)]) (by show blkC ["store", "journal", "told", "deed", "pair"] (defScope s_can_be_left) _ _ = true; decide +kernel)) rfl (fun _ _ _ _ _ => (rg_n 3 S.nd)) (fun _ _ _ _ _ => (rts_one (rt_cmp (o_eq hu4) (rr_of (re_item hu (rr_of (re_v 3)) (rr_of (re_int (m := false))))) (rr_of (re_str (m := false)))))) (fun _ _ _ _ _ => (re_tup (m := false) (ra_cons (re_item hu (rr_of (re_v 3)) (rr_of (re_int (m := false)))) (ra_cons (re_item hu (rr_of (re_v 3)) (rr_of (re_int (m := false)))) ra_nil))))) S.nd)
  (rs_one (rs_ret (re_cb1 (m := false) (c_all rfl) T.z_all (by decide +kernel) (rr_of (re_lc S.nd (ri_of (rr_of (re_v 0))) (blkOk_by (own := [("pair", 4)]) (by show blkC ["store", "journal", "told", "deed", "pair"] (defScope s_can_be_left) _ _ = true; decide +kernel)) rfl (fun _ _ _ _ _ => (rg_n 4 S.nd)) (fun _ _ _ _ _ => rts_nil) (fun _ _ _ _ _ => (re_cmp (m := false) (o_in hu) (rr_of (re_v 4)) (rr_of (re_v 2))))))))))
theorem ok_short_journal (T : Tb K mg fa fd) : FnOk P w K mg base CX0 2 (fa 8) (fd 8) ["journal"] (spF ks_short_journal false fn_short_journal) := by
  refine fn_pv (O' := []) (Ob := []) (m := false) T.f_short_journal sc_short_journal rfl rfl (fun cdv A outer s H E hr => ?_)
  have S := sc_short_journal
  have hu : (A.deeper (envOfC "short_journal" (defScope s_short_journal) s.heap.objs.size (fa 8) cdv)).units + 65 < cLine := by have := hr.un; omega
  have hu1 : (A.deeper (envOfC "short_journal" (defScope s_short_journal) s.heap.objs.size (fa 8) cdv)).units + 1 < cLine := by omega
  have hu4 : (A.deeper (envOfC "short_journal" (defScope s_short_journal) s.heap.objs.size (fa 8) cdv)).units + 64 < cLine := by omega
  exact (rs_seq (rs_setF 1 (re_call (ks := [.fr]) (fn := fn_ended_in) (ok_ended_in T) (hr.mono (by decide)) T.m_ended_in T.f_ended_in.kp T.b_ended_in (ras_e (re_v 0) ras_nil)) S.nd)
  (rs_one (rs_ret (re_ct1 (m := false) c_tuple T.z_tuple (by decide +kernel) (rr_of (re_lc S.nd (ri_of (rr_of (re_v 0))) (blkOk_by (own := [("deed", 2)]) (by show blkC ["journal", "ended", "deed"] (defScope s_short_journal) _ _ = true; decide +kernel)) rfl (fun _ _ _ _ _ => (rg_n 2 S.nd)) (fun _ _ _ _ _ => (rts_one (rt_cmp (o_notIn hu) (rr_of (re_item hu (rr_of (re_v 2)) (rr_of (re_int (m := false))))) (rr_of (re_v 1))))) (fun _ _ _ _ _ => (re_v 2))))))))
theorem ok_law_draws (T : Tb K mg fa fd) : FnOk P w K mg base CX0 1 (fa 9) (fd 9) ["script", "many"] (spF ks_law_draws true fn_law_draws) := by
  refine fn_pv (O' := []) (Ob := []) (m := true) T.f_law_draws sc_law_draws rfl rfl (fun cdv A outer s H E hr => ?_)
  have S := sc_law_draws
  have hu : (A.deeper (envOfC "_law_draws" (defScope s_law_draws) s.heap.objs.size (fa 9) cdv)).units + 65 < cLine := by have := hr.un; omega
  have hu1 : (A.deeper (envOfC "_law_draws" (defScope s_law_draws) s.heap.objs.size (fa 9) cdv)).units + 1 < cLine := by omega
  have hu4 : (A.deeper (envOfC "_law_draws" (defScope s_law_draws) s.heap.objs.size (fa 9) cdv)).units + 64 < cLine := by omega
  exact (rs_seq (rs_setLc 2 S.nd (ri_of (rr_v 0)) (blkOk_by (own := [("cell", 8)]) (by show blkC ["script", "many", "cells", "rest", "drawn", "k", "at", "once", "cell"] (defScope s_law_draws) _ _ = true; decide +kernel)) rfl (fun _ _ _ _ _ => (rg_n 8 S.nd)) (fun _ _ _ _ _ => rts_nil) (fun _ _ _ _ _ => (re_ct1 (m := false) c_int T.z_int (by decide +kernel) (rr_of (re_v 8)))) (hsw := sw_true rfl rfl rfl (by decide +kernel)))
  (rs_seq (rs_if (rt_cmp (o_eq hu4) (rr_of (re_cb1 (m := false) c_len T.z_len (by decide +kernel) (rr_v 2))) (rr_of (re_int (m := false))))
  (rs_one (rs_expr (re_append 2 (re_int (m := false)))))
  rs_nil)
  (rs_seq (rs_setM 3 (re_ct1 (m := true) (c_list rfl) T.z_list (by decide +kernel) (rr_v 2)) S.nd)
  (rs_seq (rs_setM 4 (re_lst ra_nil) S.nd)
  (rs_seq (rs_for (vs := [5]) (ri_rg1 T.z_range (re_v 1)) (rg_n 5 S.nd)
  (rs_seq (rs_setF 6 (re_op2 (m := false) o_mod (rr_of (re_v 5)) (rr_of (re_cb1 (m := false) c_len T.z_len (by decide +kernel) (rr_v 2)))) S.nd)
  (rs_one (rs_if ((rw_and (rt_cmp o_ge (rr_of (re_item hu (rr_v 2) (rr_of (re_v 6)))) (rr_of (re_op2 (m := false) o_pow (rr_of (re_int (m := false))) (rr_of (re_int (m := false)))))) (rw_and1 (rt_cmp o_gt (rr_of (re_item hu (rr_v 3) (rr_of (re_v 6)))) (rr_of (re_int (m := false))))))).t
  (rs_seq (rs_expr (re_append 4 (re_op2 (m := false) o_mod (rr_of (re_ct1 (m := false) c_int T.z_int (by decide +kernel) (rr_of (re_item hu (rr_v 3) (rr_of (re_v 6)))))) (rr_of (re_int (m := false))))))
  (rs_one (rs_sub 3 hu (re_op2 (m := false) o_fdiv (rr_of (re_item hu (rr_v 3) (rr_of (re_v 6)))) (rr_of (re_int (m := false)))) (re_v 6))))
  (rs_seq (rs_setF 7 (re_op2 (m := false) o_mod (rr_of (re_ct1 (m := false) c_int T.z_int (by decide +kernel) (rr_of (re_op2 (m := false) o_add (rr_of (re_op2 (m := false) o_add (rr_of (re_op2 (m := false) o_mul (rr_of (re_item hu (rr_v 2) (rr_of (re_v 6)))) (rr_of (re_int (m := false))))) (rr_of (re_op2 (m := false) o_mul (rr_of (re_v 5)) (rr_of (re_int (m := false))))))) (rr_of (re_int (m := false))))))) (rr_of (re_int (m := false)))) S.nd)
  (rs_one (rs_expr (re_append 4 (re_op2 (m := false) o_mod (rr_of (re_ct1 (m := false) c_int T.z_int (by decide +kernel) (rr_of (re_op2 (m := false) o_add (rr_of (re_op2 (m := false) o_add (rr_of (re_op2 (m := false) o_mul (rr_of (re_v 7)) (rr_of (re_v 7)))) (rr_of (re_op2 (m := false) o_mul (rr_of (re_int (m := false))) (rr_of (re_v 7)))))) (rr_of (re_v 5)))))) (rr_of (re_int (m := false))))))))))))
  (rs_seq (rs_expr (re_reverse 4))
  (rs_one (rs_retM 4))))))))
theorem ok_law_take (T : Tb K mg fa fd) : FnOk P w K mg base CX0 1 (fa 10) (fd 10) ["draws", "many"] (spF ks_law_take false fn_law_take) := by
  refine fn_pv (O' := []) (Ob := []) (m := false) T.f_law_take sc_law_take rfl rfl (fun cdv A outer s H E hr => ?_)
  have S := sc_law_take
  have hu : (A.deeper (envOfC "_law_take" (defScope s_law_take) s.heap.objs.size (fa 10) cdv)).units + 65 < cLine := by have := hr.un; omega
  have hu1 : (A.deeper (envOfC "_law_take" (defScope s_law_take) s.heap.objs.size (fa 10) cdv)).units + 1 < cLine := by omega
  have hu4 : (A.deeper (envOfC "_law_take" (defScope s_law_take) s.heap.objs.size (fa 10) cdv)).units + 64 < cLine := by omega
  exact (rs_seq (rs_if (rt_cmp (o_eq hu4) (rr_of (re_cb1 (m := false) c_len T.z_len (by decide +kernel) (rr_v 0))) (rr_of (re_int (m := false))))
  (rs_one (rs_ret (re_int (m := false))))
  rs_nil)
  (rs_one (rs_ret (re_op2 (m := false) o_mod (rr_of (re_ct1 (m := false) c_int T.z_int (by decide +kernel) (rr_of (re_pop 0)))) (rr_of (re_v 1))))))
theorem ok_law_cell (T : Tb K mg fa fd) : FnOk P w K mg base CX0 2 (fa 11) (fd 11) ["script", "draws"] (spF ks_law_cell false fn_law_cell) := by
  refine fn_pv (O' := []) (Ob := []) (m := false) T.f_law_cell sc_law_cell rfl rfl (fun cdv A outer s H E hr => ?_)
  have S := sc_law_cell
  have hu : (A.deeper (envOfC "_law_cell" (defScope s_law_cell) s.heap.objs.size (fa 11) cdv)).units + 65 < cLine := by have := hr.un; omega
  have hu1 : (A.deeper (envOfC "_law_cell" (defScope s_law_cell) s.heap.objs.size (fa 11) cdv)).units + 1 < cLine := by omega
  have hu4 : (A.deeper (envOfC "_law_cell" (defScope s_law_cell) s.heap.objs.size (fa 11) cdv)).units + 64 < cLine := by omega
  exact (rs_seq (rs_if (rt_cmp (o_eq hu4) (rr_of (re_cb1 (m := false) c_len T.z_len (by decide +kernel) (rr_v 0))) (rr_of (re_int (m := false))))
  (rs_one (rs_ret (re_int (m := false))))
  rs_nil)
  (rs_seq (rs_setF 2 (re_ct1 (m := false) c_int T.z_int (by decide +kernel) (rr_of (re_item hu (rr_v 0) (rr_of (re_call (ks := [.io, .fr]) (fn := fn_law_take) (ok_law_take T) (hr.mono (by decide)) T.m_law_take T.f_law_take.kp T.b_law_take (ras_i 1 (ras_e (re_cb1 (m := false) c_len T.z_len (by decide +kernel) (rr_v 0)) ras_nil))))))) S.nd)
  (rs_one (rs_ret (re_op2 (m := false) o_mul (rr_of (re_op2 (m := false) o_mod (rr_of (re_cb1 (m := false) c_abs T.z_abs (by decide +kernel) (rr_of (re_v 2)))) (rr_of (re_op2 (m := false) o_pow (rr_of (re_int (m := false))) (rr_of (re_int (m := false))))))) (rr_of (re_item hu (rr_of (re_lst (ra_cons (re_int (m := false)) (ra_cons (re_un (m := false) o_neg (rr_of (re_int (m := false)))) ra_nil)))) (rr_of (re_ct1 (m := false) c_int T.z_int (by decide +kernel) (rr_of (re_cmp (m := false) o_lt (rr_of (re_v 2)) (rr_of (re_int (m := false))))))))))))))
theorem ok_law_same (T : Tb K mg fa fd) : ∀ n : Nat, FnOk P w K mg base CX0 n (fa 12) (fd 12) ["actual", "due"] (spF ks_law_same false (fn_law_same n))
  | 0 => fnok0 _
  | n + 1 => by
    have G := ok_law_same T n
    refine fn_pv (O' := []) (Ob := []) (m := false) T.f_law_same sc_law_same rfl rfl (fun cdv A outer s H E hr => ?_)
    have S := sc_law_same
    have hu : (A.deeper (envOfC "_law_same" (defScope s_law_same) s.heap.objs.size (fa 12) cdv)).units + 65 < cLine := by have := hr.un; omega
    have hu1 : (A.deeper (envOfC "_law_same" (defScope s_law_same) s.heap.objs.size (fa 12) cdv)).units + 1 < cLine := by omega
    have hu4 : (A.deeper (envOfC "_law_same" (defScope s_law_same) s.heap.objs.size (fa 12) cdv)).units + 64 < cLine := by omega
    exact (rs_seq (rs_if (rt_cmp o_isN (rr_of (re_v 1)) (rr_of (re_non (m := false))))
  (rs_one (rs_ret (re_cmp (m := false) o_isN (rr_of (re_v 0)) (rr_of (re_non (m := false))))))
  rs_nil)
  (rs_seq (rs_if (rt_v (re_isi (T := "bool") (m := false) T.z_isinstance T.z_bool (by decide +kernel) (rr_of (re_v 1))))
  (rs_one (rs_ret (re_and (re_isi (T := "bool") (m := false) T.z_isinstance T.z_bool (by decide +kernel) (rr_of (re_v 0))) (re_one (re_cmp (m := false) (o_eq hu4) (rr_of (re_v 0)) (rr_of (re_v 1)))))))
  rs_nil)
  (rs_seq (rs_if (rt_v (re_isi (T := "int") (m := false) T.z_isinstance T.z_int (by decide +kernel) (rr_of (re_v 1))))
  (rs_one (rs_ret (re_and (re_isi (T := "int") (m := false) T.z_isinstance T.z_int (by decide +kernel) (rr_of (re_v 0))) (re_and (re_not (m := false) (re_isi (T := "bool") (m := false) T.z_isinstance T.z_bool (by decide +kernel) (rr_of (re_v 0)))) (re_one (re_cmp (m := false) (o_eq hu4) (rr_of (re_v 0)) (rr_of (re_v 1))))))))
  rs_nil)
  (rs_seq (rs_if (rt_v (re_isi (T := "str") (m := false) T.z_isinstance T.z_str (by decide +kernel) (rr_of (re_v 1))))
  (rs_one (rs_ret (re_and (re_isi (T := "str") (m := false) T.z_isinstance T.z_str (by decide +kernel) (rr_of (re_v 0))) (re_one (re_cmp (m := false) (o_eq hu4) (rr_of (re_v 0)) (rr_of (re_v 1)))))))
  rs_nil)
  (rs_seq (rs_if ((rw_or (rt_not (rt_v (re_isi (T := "tuple") (m := false) T.z_isinstance T.z_tuple (by decide +kernel) (rr_of (re_v 0))))) (rw_or1 (rt_cmp (o_ne hu4) (rr_of (re_cb1 (m := false) c_len T.z_len (by decide +kernel) (rr_of (re_v 0)))) (rr_of (re_cb1 (m := false) c_len T.z_len (by decide +kernel) (rr_of (re_v 1)))))))).t
  (rs_one (rs_ret (re_bl (m := false))))
  rs_nil)
  (rs_seq (rs_for (vs := [2]) (ri_rg1 T.z_range (re_cb1 (m := false) c_len T.z_len (by decide +kernel) (rr_of (re_v 1)))) (rg_n 2 S.nd)
  (rs_one (rs_if (rt_not (rt_v (re_call (ks := [.fr, .fr]) (fn := (fn_law_same n)) G hr T.m_law_same T.f_law_same.kp T.b_law_same (ras_e (re_item hu (rr_of (re_v 0)) (rr_of (re_v 2))) (ras_e (re_item hu (rr_of (re_v 1)) (rr_of (re_v 2))) ras_nil)))))
  (rs_one (rs_ret (re_bl (m := false))))
  rs_nil)))
  (rs_one (rs_ret (re_bl (m := false))))))))))
theorem ok_law_journal (T : Tb K mg fa fd) : FnOk P w K mg base CX0 3 (fa 13) (fd 13) ["draws", "script", "most"] (spF ks_law_journal false fn_law_journal) := by
  refine fn_pv (O' := []) (Ob := []) (m := false) T.f_law_journal sc_law_journal rfl rfl (fun cdv A outer s H E hr => ?_)
  have S := sc_law_journal
  have hu : (A.deeper (envOfC "_law_journal" (defScope s_law_journal) s.heap.objs.size (fa 13) cdv)).units + 65 < cLine := by have := hr.un; omega
  have hu1 : (A.deeper (envOfC "_law_journal" (defScope s_law_journal) s.heap.objs.size (fa 13) cdv)).units + 1 < cLine := by omega
  have hu4 : (A.deeper (envOfC "_law_journal" (defScope s_law_journal) s.heap.objs.size (fa 13) cdv)).units + 64 < cLine := by omega
  exact (rs_seq (rs_setF 3 (re_op2 (m := false) o_add (rr_of (re_int (m := false))) (rr_of (re_call (ks := [.io, .fr]) (fn := fn_law_take) (ok_law_take T) (hr.mono (by decide)) T.m_law_take T.f_law_take.kp T.b_law_take (ras_i 0 (ras_e (re_int (m := false)) ras_nil))))) S.nd)
  (rs_seq (rs_setF 4 (re_op2 (m := false) o_add (rr_of (re_int (m := false))) (rr_of (re_call (ks := [.io, .fr]) (fn := fn_law_take) (ok_law_take T) (hr.mono (by decide)) T.m_law_take T.f_law_take.kp T.b_law_take (ras_i 0 (ras_e (re_int (m := false)) ras_nil))))) S.nd)
  (rs_seq (rs_setF 5 (re_item hu (rr_of (re_lst (ra_cons (re_int (m := false)) (ra_cons (re_int (m := false)) (ra_cons (re_op2 (m := false) o_add (rr_of (re_int (m := false))) (rr_of (re_cb1 (m := false) c_abs T.z_abs (by decide +kernel) (rr_of (re_call (ks := [.lk, .io]) (fn := fn_law_cell) (ok_law_cell T) (hr.mono (by decide)) T.m_law_cell T.f_law_cell.kp T.b_law_cell (ras_l 1 (ras_i 0 ras_nil))))))) ra_nil))))) (rr_of (re_call (ks := [.io, .fr]) (fn := fn_law_take) (ok_law_take T) (hr.mono (by decide)) T.m_law_take T.f_law_take.kp T.b_law_take (ras_i 0 (ras_e (re_int (m := false)) ras_nil))))) S.nd)
  (rs_seq (rs_setM 6 (re_lst ra_nil) S.nd)
  (rs_seq (rs_for (vs := [7]) (ri_rg1 T.z_range (re_call (ks := [.io, .fr]) (fn := fn_law_take) (ok_law_take T) (hr.mono (by decide)) T.m_law_take T.f_law_take.kp T.b_law_take (ras_i 0 (ras_e (re_op2 (m := false) o_add (rr_of (re_v 2)) (rr_of (re_int (m := false)))) ras_nil)))) (rg_n 7 S.nd)
  (rs_seq (rs_setF 8 (re_call (ks := [.io, .fr]) (fn := fn_law_take) (ok_law_take T) (hr.mono (by decide)) T.m_law_take T.f_law_take.kp T.b_law_take (ras_i 0 (ras_e (re_v 3) ras_nil))) S.nd)
  (rs_one (rs_if (rt_cmp (o_eq hu4) (rr_of (re_call (ks := [.io, .fr]) (fn := fn_law_take) (ok_law_take T) (hr.mono (by decide)) T.m_law_take T.f_law_take.kp T.b_law_take (ras_i 0 (ras_e (re_int (m := false)) ras_nil)))) (rr_of (re_int (m := false))))
  (rs_one (rs_expr (re_append 6 (re_tup (m := false) (ra_cons (re_v 8) (ra_cons (re_str (m := false)) ra_nil))))))
  (rs_one (rs_expr (re_append 6 (re_tup (m := false) (ra_cons (re_v 8) (ra_cons (re_str (m := false)) (ra_cons (re_call (ks := [.io, .fr]) (fn := fn_law_take) (ok_law_take T) (hr.mono (by decide)) T.m_law_take T.f_law_take.kp T.b_law_take (ras_i 0 (ras_e (re_v 4) ras_nil))) (ra_cons (re_op2 (m := false) o_mul (rr_of (re_op2 (m := false) o_sub (rr_of (re_call (ks := [.io, .fr]) (fn := fn_law_take) (ok_law_take T) (hr.mono (by decide)) T.m_law_take T.f_law_take.kp T.b_law_take (ras_i 0 (ras_e (re_int (m := false)) ras_nil)))) (rr_of (re_int (m := false))))) (rr_of (re_v 5))) ra_nil))))))))))))
  (rs_one (rs_ret (re_ct1 (m := false) c_tuple T.z_tuple (by decide +kernel) (rr_v 6)))))))))
theorem ok_law_pairs (T : Tb K mg fa fd) : FnOk P w K mg base CX0 1 (fa 14) (fd 14) ["values"] (spF ks_law_pairs false fn_law_pairs) := by
  refine fn_pv (O' := []) (Ob := []) (m := false) T.f_law_pairs sc_law_pairs rfl rfl (fun cdv A outer s H E hr => ?_)
  have S := sc_law_pairs
  have hu : (A.deeper (envOfC "_law_pairs" (defScope s_law_pairs) s.heap.objs.size (fa 14) cdv)).units + 65 < cLine := by have := hr.un; omega
  have hu1 : (A.deeper (envOfC "_law_pairs" (defScope s_law_pairs) s.heap.objs.size (fa 14) cdv)).units + 1 < cLine := by omega
  have hu4 : (A.deeper (envOfC "_law_pairs" (defScope s_law_pairs) s.heap.objs.size (fa 14) cdv)).units + 64 < cLine := by omega
  exact (rs_one (rs_ret (re_ct1 (m := false) c_tuple T.z_tuple (by decide +kernel) (rr_of (re_lc S.nd (ri_of (rr_of (re_cb1 (m := false) (c_sortI rfl) T.z_sorted (by decide +kernel) (rr_of (re_v 0))))) (blkOk_by (own := [("place", 1)]) (by show blkC ["values", "place"] (defScope s_law_pairs) _ _ = true; decide +kernel)) rfl (fun _ _ _ _ _ => (rg_n 1 S.nd)) (fun _ _ _ _ _ => (rts_one (rt_cmp (o_ne hu4) (rr_of (re_item hu (rr_of (re_v 0)) (rr_of (re_v 1)))) (rr_of (re_int (m := false)))))) (fun _ _ _ _ _ => (re_tup (m := false) (ra_cons (re_v 1) (ra_cons (re_item hu (rr_of (re_v 0)) (rr_of (re_v 1))) ra_nil)))))))))
theorem ok_law_ended (T : Tb K mg fa fd) : FnOk P w K mg base CX0 1 (fa 15) (fd 15) ["journal"] (spF ks_law_ended false fn_law_ended) := by
  refine fn_pv (O' := []) (Ob := []) (m := false) T.f_law_ended sc_law_ended rfl rfl (fun cdv A outer s H E hr => ?_)
  have S := sc_law_ended
  have hu : (A.deeper (envOfC "_law_ended" (defScope s_law_ended) s.heap.objs.size (fa 15) cdv)).units + 65 < cLine := by have := hr.un; omega
  have hu1 : (A.deeper (envOfC "_law_ended" (defScope s_law_ended) s.heap.objs.size (fa 15) cdv)).units + 1 < cLine := by omega
  have hu4 : (A.deeper (envOfC "_law_ended" (defScope s_law_ended) s.heap.objs.size (fa 15) cdv)).units + 64 < cLine := by omega
  exact (rs_one (rs_ret (re_dn (re_sortSet T.z_sorted T.z_set (rr_of (re_lc S.nd (ri_of (rr_of (re_v 0))) (blkOk_by (own := [("deed", 1)]) (by show blkC ["journal", "deed"] (defScope s_law_ended) _ _ = true; decide +kernel)) rfl (fun _ _ _ _ _ => (rg_n 1 S.nd)) (fun _ _ _ _ _ => (rts_one (rt_cmp (o_eq hu4) (rr_of (re_item hu (rr_of (re_v 1)) (rr_of (re_int (m := false))))) (rr_of (re_str (m := false)))))) (fun _ _ _ _ _ => (re_item hu (rr_of (re_v 1)) (rr_of (re_int (m := false)))))))))))
theorem ok_law_store (T : Tb K mg fa fd) : FnOk P w K mg base CX0 2 (fa 16) (fd 16) ["draws", "journal"] (spF ks_law_store false fn_law_store) := by
  refine fn_pv (O' := []) (Ob := []) (m := false) T.f_law_store sc_law_store rfl rfl (fun cdv A outer s H E hr => ?_)
  have S := sc_law_store
  have hu : (A.deeper (envOfC "_law_store" (defScope s_law_store) s.heap.objs.size (fa 16) cdv)).units + 65 < cLine := by have := hr.un; omega
  have hu1 : (A.deeper (envOfC "_law_store" (defScope s_law_store) s.heap.objs.size (fa 16) cdv)).units + 1 < cLine := by omega
  have hu4 : (A.deeper (envOfC "_law_store" (defScope s_law_store) s.heap.objs.size (fa 16) cdv)).units + 64 < cLine := by omega
  exact (rs_seq (rs_setM 2 re_dict0 S.nd)
  (rs_seq (rs_for (vs := [3]) (ri_of (rr_of (re_v 1))) (rg_n 3 S.nd)
  (rs_one (rs_if ((rw_and (rt_cmp (o_eq hu4) (rr_of (re_item hu (rr_of (re_v 3)) (rr_of (re_int (m := false))))) (rr_of (re_str (m := false)))) (rw_and1 (rt_cmp (o_eq hu4) (rr_of (re_call (ks := [.io, .fr]) (fn := fn_law_take) (ok_law_take T) (hr.mono (by decide)) T.m_law_take T.f_law_take.kp T.b_law_take (ras_i 0 (ras_e (re_int (m := false)) ras_nil)))) (rr_of (re_int (m := false))))))).t
  (rs_one (rs_sub 2 hu (re_item hu (rr_of (re_v 3)) (rr_of (re_int (m := false)))) (re_item hu (rr_of (re_v 3)) (rr_of (re_int (m := false))))))
  rs_nil)))
  (rs_seq (rs_if (rt_cmp (o_eq hu4) (rr_of (re_call (ks := [.io, .fr]) (fn := fn_law_take) (ok_law_take T) (hr.mono (by decide)) T.m_law_take T.f_law_take.kp T.b_law_take (ras_i 0 (ras_e (re_int (m := false)) ras_nil)))) (rr_of (re_int (m := false))))
  (rs_one (rs_sub 2 hu (re_call (ks := [.io, .fr]) (fn := fn_law_take) (ok_law_take T) (hr.mono (by decide)) T.m_law_take T.f_law_take.kp T.b_law_take (ras_i 0 (ras_e (re_int (m := false)) ras_nil))) (re_call (ks := [.io, .fr]) (fn := fn_law_take) (ok_law_take T) (hr.mono (by decide)) T.m_law_take T.f_law_take.kp T.b_law_take (ras_i 0 (ras_e (re_int (m := false)) ras_nil)))))
  rs_nil)
  (rss_frz 2 (rs_one (rs_ret (re_call (ks := [.fr]) (fn := fn_law_pairs) (ok_law_pairs T) (hr.mono (by decide)) T.m_law_pairs T.f_law_pairs.kp T.b_law_pairs (ras_e (re_v 2) ras_nil))))))))
theorem ok_law_undone (T : Tb K mg fa fd) : FnOk P w K mg base CX0 2 (fa 17) (fd 17) ["store", "journal"] (spF ks_law_undone false fn_law_undone) := by
  refine fn_pv (O' := []) (Ob := []) (m := false) T.f_law_undone sc_law_undone rfl rfl (fun cdv A outer s H E hr => ?_)
  have S := sc_law_undone
  have hu : (A.deeper (envOfC "_law_undone" (defScope s_law_undone) s.heap.objs.size (fa 17) cdv)).units + 65 < cLine := by have := hr.un; omega
  have hu1 : (A.deeper (envOfC "_law_undone" (defScope s_law_undone) s.heap.objs.size (fa 17) cdv)).units + 1 < cLine := by omega
  have hu4 : (A.deeper (envOfC "_law_undone" (defScope s_law_undone) s.heap.objs.size (fa 17) cdv)).units + 64 < cLine := by omega
  exact (rs_seq (rs_setF 2 (re_call (ks := [.fr]) (fn := fn_law_ended) (ok_law_ended T) (hr.mono (by decide)) T.m_law_ended T.f_law_ended.kp T.b_law_ended (ras_e (re_v 1) ras_nil)) S.nd)
  (rs_seq (rs_setM 3 re_dict0 S.nd)
  (rs_seq (rs_for (vs := [4, 5]) (ri_of (rr_of (re_v 0))) (rg_t (rgs_cons (rg_n 4 S.nd) (rgs_cons (rg_n 5 S.nd) rgs_nil)))
  (rs_one (rs_sub 3 hu (re_v 5) (re_v 4))))
  (rs_seq (rs_for (vs := [6]) (ri_rg2 T.z_range (re_int (m := false)) (re_op2 (m := false) o_add (rr_of (re_cb1 (m := false) c_len T.z_len (by decide +kernel) (rr_of (re_v 1)))) (rr_of (re_int (m := false))))) (rg_n 6 S.nd)
  (rs_seq (rs_setF 7 (re_op2 (m := false) o_sub (rr_of (re_cb1 (m := false) c_len T.z_len (by decide +kernel) (rr_of (re_v 1)))) (rr_of (re_v 6))) S.nd)
  (rs_one (rs_if ((rw_and (rt_cmp (o_eq hu4) (rr_of (re_item hu (rr_of (re_item hu (rr_of (re_v 1)) (rr_of (re_v 7)))) (rr_of (re_int (m := false))))) (rr_of (re_str (m := false)))) (rw_and1 (rt_cmp (o_notIn hu) (rr_of (re_item hu (rr_of (re_item hu (rr_of (re_v 1)) (rr_of (re_v 7)))) (rr_of (re_int (m := false))))) (rr_of (re_v 2)))))).t
  (rs_seq (rs_frzB 8 (rs_setLc 8 S.nd (ri_of (rr_of (re_slice (rr_of (re_v 1)) ro_n (ro_s (re_v 7))))) (blkOk_by (own := [("deed", 9)]) (by show blkC ["store", "journal", "ended", "values", "place", "value", "back", "at", "ahead", "deed"] (defScope s_law_undone) _ _ = true; decide +kernel)) rfl (fun _ _ _ _ _ => (rg_n 9 S.nd)) (fun _ _ _ _ _ => (rts_one ((rw_and (rt_cmp (o_eq hu4) (rr_of (re_item hu (rr_of (re_v 9)) (rr_of (re_int (m := false))))) (rr_of (re_str (m := false)))) (rw_and1 (rt_cmp (o_eq hu4) (rr_of (re_item hu (rr_of (re_v 9)) (rr_of (re_int (m := false))))) (rr_of (re_item hu (rr_of (re_item hu (rr_of (re_v 1)) (rr_of (re_v 7)))) (rr_of (re_int (m := false))))))))).t)) (fun _ _ _ _ _ => (re_item hu (rr_of (re_v 9)) (rr_of (re_int (m := false))))) (hsw := sw_true rfl rfl rfl (by decide +kernel))))
  (rs_one (rs_sub 3 hu (re_item hu (rr_of (re_op2 (m := false) o_add (rr_of (re_lst (ra_cons (re_int (m := false)) ra_nil))) (rr_of (re_v 8)))) (rr_of (re_un (m := false) o_neg (rr_of (re_int (m := false)))))) (re_item hu (rr_of (re_item hu (rr_of (re_v 1)) (rr_of (re_v 7)))) (rr_of (re_int (m := false)))))))
  rs_nil))))
  (rss_frz 3 (rs_one (rs_ret (re_call (ks := [.fr]) (fn := fn_law_pairs) (ok_law_pairs T) (hr.mono (by decide)) T.m_law_pairs T.f_law_pairs.kp T.b_law_pairs (ras_e (re_v 3) ras_nil)))))))))
theorem ok_law_made (T : Tb K mg fa fd) : FnOk P w K mg base CX0 2 (fa 18) (fd 18) ["store", "journal", "askers"] (spF ks_law_made false fn_law_made) := by
  refine fn_pv (O' := []) (Ob := []) (m := false) T.f_law_made sc_law_made rfl rfl (fun cdv A outer s H E hr => ?_)
  have S := sc_law_made
  have hu : (A.deeper (envOfC "_law_made" (defScope s_law_made) s.heap.objs.size (fa 18) cdv)).units + 65 < cLine := by have := hr.un; omega
  have hu1 : (A.deeper (envOfC "_law_made" (defScope s_law_made) s.heap.objs.size (fa 18) cdv)).units + 1 < cLine := by omega
  have hu4 : (A.deeper (envOfC "_law_made" (defScope s_law_made) s.heap.objs.size (fa 18) cdv)).units + 64 < cLine := by omega
  exact (rs_seq (rs_setM 3 re_dict0 S.nd)
  (rs_seq (rs_for (vs := [4, 5]) (ri_of (rr_of (re_v 0))) (rg_t (rgs_cons (rg_n 4 S.nd) (rgs_cons (rg_n 5 S.nd) rgs_nil)))
  (rs_one (rs_sub 3 hu (re_v 5) (re_v 4))))
  (rs_seq (rs_for (vs := [6]) (ri_of (rr_of (re_v 1))) (rg_n 6 S.nd)
  (rs_one (rs_if ((rw_and (rt_cmp (o_eq hu4) (rr_of (re_item hu (rr_of (re_v 6)) (rr_of (re_int (m := false))))) (rr_of (re_str (m := false)))) (rw_and1 (rt_cmp (o_in hu) (rr_of (re_item hu (rr_of (re_v 6)) (rr_of (re_int (m := false))))) (rr_of (re_v 2)))))).t
  (rs_one (rs_sub 3 hu (re_item hu (rr_of (re_v 6)) (rr_of (re_int (m := false)))) (re_item hu (rr_of (re_v 6)) (rr_of (re_int (m := false))))))
  rs_nil)))
  (rss_frz 3 (rs_one (rs_ret (re_call (ks := [.fr]) (fn := fn_law_pairs) (ok_law_pairs T) (hr.mono (by decide)) T.m_law_pairs T.f_law_pairs.kp T.b_law_pairs (ras_e (re_v 3) ras_nil))))))))
theorem ok_law_strict (T : Tb K mg fa fd) : FnOk P w K mg base CX0 1 (fa 19) (fd 19) ["journal"] (spF ks_law_strict false fn_law_strict) := by
  refine fn_pv (O' := []) (Ob := []) (m := false) T.f_law_strict sc_law_strict rfl rfl (fun cdv A outer s H E hr => ?_)
  have S := sc_law_strict
  have hu : (A.deeper (envOfC "_law_strict" (defScope s_law_strict) s.heap.objs.size (fa 19) cdv)).units + 65 < cLine := by have := hr.un; omega
  have hu1 : (A.deeper (envOfC "_law_strict" (defScope s_law_strict) s.heap.objs.size (fa 19) cdv)).units + 1 < cLine := by omega
  have hu4 : (A.deeper (envOfC "_law_strict" (defScope s_law_strict) s.heap.objs.size (fa 19) cdv)).units + 64 < cLine := by omega
  exact (rs_seq (rs_for (vs := [1]) (ri_rg1 T.z_range (re_cb1 (m := false) c_len T.z_len (by decide +kernel) (rr_of (re_v 0)))) (rg_n 1 S.nd)
  (rs_one (rs_if (rt_cmp (o_eq hu4) (rr_of (re_item hu (rr_of (re_item hu (rr_of (re_v 0)) (rr_of (re_v 1)))) (rr_of (re_int (m := false))))) (rr_of (re_str (m := false))))
  (rs_one (rs_for (vs := [2]) (ri_rg1 T.z_range (re_v 1)) (rg_n 2 S.nd)
  (rs_seq (rs_setF 3 (re_item hu (rr_of (re_v 0)) (rr_of (re_v 2))) S.nd)
  (rs_one (rs_if ((rw_and (rt_cmp (o_eq hu4) (rr_of (re_item hu (rr_of (re_v 3)) (rr_of (re_int (m := false))))) (rr_of (re_str (m := false)))) (rw_and (rt_cmp (o_eq hu4) (rr_of (re_item hu (rr_of (re_v 3)) (rr_of (re_int (m := false))))) (rr_of (re_item hu (rr_of (re_item hu (rr_of (re_v 0)) (rr_of (re_v 1)))) (rr_of (re_int (m := false)))))) (rw_and (rt_cmp (o_ne hu4) (rr_of (re_item hu (rr_of (re_v 3)) (rr_of (re_int (m := false))))) (rr_of (re_item hu (rr_of (re_item hu (rr_of (re_v 0)) (rr_of (re_v 1)))) (rr_of (re_int (m := false)))))) (rw_and1 (rt_cmp (o_notIn hu) (rr_of (re_tup (m := false) (ra_cons (re_item hu (rr_of (re_v 3)) (rr_of (re_int (m := false)))) (ra_cons (re_str (m := false)) ra_nil)))) (rr_of (re_slice (rr_of (re_v 0)) (ro_s (re_v 2)) (ro_s (re_v 1)))))))))).t
  (rs_one (rs_ret (re_bl (m := false))))
  rs_nil)))))
  rs_nil)))
  (rs_one (rs_ret (re_bl (m := false)))))
theorem ok_law_is_told (T : Tb K mg fa fd) : FnOk P w K mg base CX0 7 (fa 20) (fd 20) ["draws", "journal"] (spF ks_law_is_told false fn_law_is_told) := by
  refine fn_pv (O' := []) (Ob := []) (m := false) T.f_law_is_told sc_law_is_told rfl rfl (fun cdv A outer s H E hr => ?_)
  have S := sc_law_is_told
  have hu : (A.deeper (envOfC "_law_is_told" (defScope s_law_is_told) s.heap.objs.size (fa 20) cdv)).units + 65 < cLine := by have := hr.un; omega
  have hu1 : (A.deeper (envOfC "_law_is_told" (defScope s_law_is_told) s.heap.objs.size (fa 20) cdv)).units + 1 < cLine := by omega
  have hu4 : (A.deeper (envOfC "_law_is_told" (defScope s_law_is_told) s.heap.objs.size (fa 20) cdv)).units + 64 < cLine := by omega
  exact (rs_seq (rs_setF 2 (re_call (ks := [.fr]) (fn := fn_law_ended) (ok_law_ended T) (hr.mono (by decide)) T.m_law_ended T.f_law_ended.kp T.b_law_ended (ras_e (re_v 1) ras_nil)) S.nd)
  (rs_seq (rs_setF 3 (re_sortSet T.z_sorted T.z_set (rr_of (re_lc S.nd (ri_of (rr_of (re_v 1))) (blkOk_by (own := [("deed", 7)]) (by show blkC ["draws", "journal", "ended", "every", "k", "store", "left", "deed", "pair"] (defScope s_law_is_told) _ _ = true; decide +kernel)) rfl (fun _ _ _ _ _ => (rg_n 7 S.nd)) (fun _ _ _ _ _ => rts_nil) (fun _ _ _ _ _ => (re_item hu (rr_of (re_v 7)) (rr_of (re_int (m := false)))))))) S.nd)
  (rs_seq (rs_if ((rw_or (rt_not (rt_v (re_call (ks := [.fr, .fr]) (fn := (fn_law_same 6)) (ok_law_same T 6) (hr.mono (by decide)) T.m_law_same T.f_law_same.kp T.b_law_same (ras_e (re_call (ks := [.fr]) (fn := fn_ended_in) (ok_ended_in T) (hr.mono (by decide)) T.m_ended_in T.f_ended_in.kp T.b_ended_in (ras_e (re_v 1) ras_nil)) (ras_e (re_ct1 (m := false) c_tuple T.z_tuple (by decide +kernel) (rr_of (re_v 2))) ras_nil))))) (rw_or (rt_not (rt_v (re_call (ks := [.fr, .fr]) (fn := (fn_law_same 6)) (ok_law_same T 6) (hr.mono (by decide)) T.m_law_same T.f_law_same.kp T.b_law_same (ras_e (re_call (ks := [.fr]) (fn := fn_redone_store) (ok_redone_store T) (hr.mono (by decide)) T.m_redone_store T.f_redone_store.kp T.b_redone_store (ras_e (re_v 1) ras_nil)) (ras_e (re_call (ks := [.fr, .fr, .fr]) (fn := fn_law_made) (ok_law_made T) (hr.mono (by decide)) T.m_law_made T.f_law_made.kp T.b_law_made (ras_e (re_tup (m := false) ra_nil) (ras_e (re_v 1) (ras_e (re_v 2) ras_nil)))) ras_nil))))) (rw_or1 (rt_not (rt_v (re_call (ks := [.fr, .fr]) (fn := (fn_law_same 6)) (ok_law_same T 6) (hr.mono (by decide)) T.m_law_same T.f_law_same.kp T.b_law_same (ras_e (re_call (ks := [.fr]) (fn := fn_is_strict) (ok_is_strict T) (hr.mono (by decide)) T.m_is_strict T.f_is_strict.kp T.b_is_strict (ras_e (re_v 1) ras_nil)) (ras_e (re_call (ks := [.fr]) (fn := fn_law_strict) (ok_law_strict T) (hr.mono (by decide)) T.m_law_strict T.f_law_strict.kp T.b_law_strict (ras_e (re_v 1) ras_nil)) ras_nil))))))))).t
  (rs_one (rs_ret (re_bl (m := false))))
  rs_nil)
  (rs_seq (rs_if (rt_not (rt_v (re_call (ks := [.fr, .fr]) (fn := (fn_law_same 6)) (ok_law_same T 6) (hr.mono (by decide)) T.m_law_same T.f_law_same.kp T.b_law_same (ras_e (re_call (ks := [.fr]) (fn := fn_short_journal) (ok_short_journal T) (hr.mono (by decide)) T.m_short_journal T.f_short_journal.kp T.b_short_journal (ras_e (re_v 1) ras_nil)) (ras_e (re_ct1 (m := false) c_tuple T.z_tuple (by decide +kernel) (rr_of (re_lc S.nd (ri_of (rr_of (re_v 1))) (blkOk_by (own := [("deed", 7)]) (by show blkC ["draws", "journal", "ended", "every", "k", "store", "left", "deed", "pair"] (defScope s_law_is_told) _ _ = true; decide +kernel)) rfl (fun _ _ _ _ _ => (rg_n 7 S.nd)) (fun _ _ _ _ _ => (rts_one (rt_cmp (o_notIn hu) (rr_of (re_item hu (rr_of (re_v 7)) (rr_of (re_int (m := false))))) (rr_of (re_v 2))))) (fun _ _ _ _ _ => (re_v 7))))) ras_nil)))))
  (rs_one (rs_ret (re_bl (m := false))))
  rs_nil)
  (rs_seq (rs_for (vs := [4]) (ri_rg1 T.z_range (re_int (m := false))) (rg_n 4 S.nd)
  (rs_seq (rs_setF 5 (re_call (ks := [.io, .fr]) (fn := fn_law_store) (ok_law_store T) (hr.mono (by decide)) T.m_law_store T.f_law_store.kp T.b_law_store (ras_i 0 (ras_e (re_v 1) ras_nil))) S.nd)
  (rs_seq (rs_setF 6 (re_cmp (m := false) (o_eq hu4) (rr_of (re_cb1 (m := false) c_len T.z_len (by decide +kernel) (rr_of (re_lc S.nd (ri_of (rr_of (re_v 5))) (blkOk_by (own := [("pair", 8)]) (by show blkC ["draws", "journal", "ended", "every", "k", "store", "left", "deed", "pair"] (defScope s_law_is_told) _ _ = true; decide +kernel)) rfl (fun _ _ _ _ _ => (rg_n 8 S.nd)) (fun _ _ _ _ _ => (rts_one (rt_cmp (o_eq hu4) (rr_of (re_cb1 (m := false) c_len T.z_len (by decide +kernel) (rr_of (re_lc S.nd (ri_of (rr_of (re_v 1))) (blkOk_by (own := [("deed", 7)]) (by with_unfolding_all rfl)) rfl (fun _ _ _ _ _ => (rg_n 7 S.nd)) (fun _ _ _ _ _ => (rts_one ((rw_and (rt_cmp (o_eq hu4) (rr_of (re_item hu (rr_of (re_v 7)) (rr_of (re_int (m := false))))) (rr_of (re_str (m := false)))) (rw_and1 (rt_cmp (o_eq hu4) (rr_of (re_slice (rr_of (re_v 7)) (ro_s (re_int (m := false))) ro_n)) (rr_of (re_v 8)))))).t)) (fun _ _ _ _ _ => (re_v 7)))))) (rr_of (re_int (m := false)))))) (fun _ _ _ _ _ => (re_v 8)))))) (rr_of (re_int (m := false)))) S.nd)
  (rs_seq (rs_if ((rw_or (rt_not (rt_v (re_call (ks := [.fr, .fr]) (fn := (fn_law_same 6)) (ok_law_same T 6) (hr.mono (by decide)) T.m_law_same T.f_law_same.kp T.b_law_same (ras_e (re_call (ks := [.fr, .fr]) (fn := fn_undone_store) (ok_undone_store T) (hr.mono (by decide)) T.m_undone_store T.f_undone_store.kp T.b_undone_store (ras_e (re_v 5) (ras_e (re_v 1) ras_nil))) (ras_e (re_call (ks := [.fr, .fr]) (fn := fn_law_undone) (ok_law_undone T) (hr.mono (by decide)) T.m_law_undone T.f_law_undone.kp T.b_law_undone (ras_e (re_v 5) (ras_e (re_v 1) ras_nil))) ras_nil))))) (rw_or1 (rt_not (rt_v (re_call (ks := [.fr, .fr]) (fn := (fn_law_same 6)) (ok_law_same T 6) (hr.mono (by decide)) T.m_law_same T.f_law_same.kp T.b_law_same (ras_e (re_call (ks := [.fr, .fr]) (fn := fn_can_be_left) (ok_can_be_left T) (hr.mono (by decide)) T.m_can_be_left T.f_can_be_left.kp T.b_can_be_left (ras_e (re_v 5) (ras_e (re_v 1) ras_nil))) (ras_e (re_v 6) ras_nil)))))))).t
  (rs_one (rs_ret (re_bl (m := false))))
  rs_nil)
  (rs_one (rs_if (rt_not (rt_v (re_call (ks := [.fr, .fr]) (fn := (fn_law_same 6)) (ok_law_same T 6) (hr.mono (by decide)) T.m_law_same T.f_law_same.kp T.b_law_same (ras_e (re_call (ks := [.fr, .fr]) (fn := fn_recovered_store) (ok_recovered_store T) (hr.mono (by decide)) T.m_recovered_store T.f_recovered_store.kp T.b_recovered_store (ras_e (re_v 5) (ras_e (re_v 1) ras_nil))) (ras_e (re_call (ks := [.fr, .fr]) (fn := fn_law_undone) (ok_law_undone T) (hr.mono (by decide)) T.m_law_undone T.f_law_undone.kp T.b_law_undone (ras_e (re_call (ks := [.fr, .fr, .fr]) (fn := fn_law_made) (ok_law_made T) (hr.mono (by decide)) T.m_law_made T.f_law_made.kp T.b_law_made (ras_e (re_v 5) (ras_e (re_v 1) (ras_e (re_v 3) ras_nil)))) (ras_e (re_v 1) ras_nil))) ras_nil)))))
  (rs_one (rs_ret (re_bl (m := false))))
  rs_nil))))))
  (rs_one (rs_ret (re_bl (m := false)))))))))
theorem ok_law (T : Tb K mg fa fd) : FnOk P w K mg base CX0 8 (fa 21) (fd 21) ["script"] (spF ks_law false fn_law) := by
  refine fn_pv (O' := []) (Ob := []) (m := false) T.f_law sc_law rfl rfl (fun cdv A outer s H E hr => ?_)
  have S := sc_law
  have hu : (A.deeper (envOfC "law" (defScope s_law) s.heap.objs.size (fa 21) cdv)).units + 65 < cLine := by have := hr.un; omega
  have hu1 : (A.deeper (envOfC "law" (defScope s_law) s.heap.objs.size (fa 21) cdv)).units + 1 < cLine := by omega
  have hu4 : (A.deeper (envOfC "law" (defScope s_law) s.heap.objs.size (fa 21) cdv)).units + 64 < cLine := by omega
  exact (rs_seq (rs_setM 1 (re_call (ks := [.lk, .fr]) (fn := fn_law_draws) (ok_law_draws T) (hr.mono (by decide)) T.m_law_draws T.f_law_draws.kp T.b_law_draws (ras_l 0 (ras_e (re_int (m := false)) ras_nil))) S.nd)
  (rs_seq (rs_for (vs := [2]) (ri_rg1 T.z_range (re_int (m := false))) (rg_n 2 S.nd)
  (rs_one (rs_if (rt_not (rt_v (re_call (ks := [.io, .fr]) (fn := fn_law_is_told) (ok_law_is_told T) (hr.mono (by decide)) T.m_law_is_told T.f_law_is_told.kp T.b_law_is_told (ras_i 1 (ras_e (re_call (ks := [.io, .lk, .fr]) (fn := fn_law_journal) (ok_law_journal T) (hr.mono (by decide)) T.m_law_journal T.f_law_journal.kp T.b_law_journal (ras_i 1 (ras_l 0 (ras_e (re_item hu (rr_of (re_lst (ra_cons (re_int (m := false)) (ra_cons (re_int (m := false)) ra_nil)))) (rr_of (re_v 2))) ras_nil)))) ras_nil)))))
  (rs_one (rs_ret (re_bl (m := false))))
  rs_nil)))
  (rs_seq (rs_setF 3 (re_tup (m := false) (ra_cons (re_tup (m := false) (ra_cons (re_int (m := false)) (ra_cons (re_str (m := false)) (ra_cons (re_int (m := false)) (ra_cons (re_int (m := false)) ra_nil))))) (ra_cons (re_tup (m := false) (ra_cons (re_int (m := false)) (ra_cons (re_str (m := false)) (ra_cons (re_int (m := false)) (ra_cons (re_int (m := false)) ra_nil))))) (ra_cons (re_tup (m := false) (ra_cons (re_int (m := false)) (ra_cons (re_str (m := false)) ra_nil))) (ra_cons (re_tup (m := false) (ra_cons (re_int (m := false)) (ra_cons (re_str (m := false)) (ra_cons (re_int (m := false)) (ra_cons (re_int (m := false)) ra_nil))))) (ra_cons (re_tup (m := false) (ra_cons (re_int (m := false)) (ra_cons (re_str (m := false)) (ra_cons (re_int (m := false)) (ra_cons (re_int (m := false)) ra_nil))))) ra_nil)))))) S.nd)
  (rs_seq (rs_if ((rw_or (rt_not (rt_v (re_call (ks := [.fr, .fr]) (fn := (fn_law_same 6)) (ok_law_same T 6) (hr.mono (by decide)) T.m_law_same T.f_law_same.kp T.b_law_same (ras_e (re_call (ks := [.fr]) (fn := fn_redone_store) (ok_redone_store T) (hr.mono (by decide)) T.m_redone_store T.f_redone_store.kp T.b_redone_store (ras_e (re_v 3) ras_nil)) (ras_e (re_tup (m := false) (ra_cons (re_tup (m := false) (ra_cons (re_int (m := false)) (ra_cons (re_int (m := false)) ra_nil))) ra_nil)) ras_nil))))) (rw_or (rt_not (rt_v (re_call (ks := [.fr, .fr]) (fn := (fn_law_same 6)) (ok_law_same T 6) (hr.mono (by decide)) T.m_law_same T.f_law_same.kp T.b_law_same (ras_e (re_call (ks := [.fr, .fr]) (fn := fn_undone_store) (ok_undone_store T) (hr.mono (by decide)) T.m_undone_store T.f_undone_store.kp T.b_undone_store (ras_e (re_tup (m := false) (ra_cons (re_tup (m := false) (ra_cons (re_int (m := false)) (ra_cons (re_int (m := false)) ra_nil))) (ra_cons (re_tup (m := false) (ra_cons (re_int (m := false)) (ra_cons (re_int (m := false)) ra_nil))) ra_nil))) (ras_e (re_v 3) ras_nil))) (ras_e (re_tup (m := false) ra_nil) ras_nil))))) (rw_or1 (rt_not (rt_v (re_call (ks := [.fr, .fr]) (fn := (fn_law_same 6)) (ok_law_same T 6) (hr.mono (by decide)) T.m_law_same T.f_law_same.kp T.b_law_same (ras_e (re_call (ks := [.fr]) (fn := fn_is_strict) (ok_is_strict T) (hr.mono (by decide)) T.m_is_strict T.f_is_strict.kp T.b_is_strict (ras_e (re_v 3) ras_nil)) (ras_e (re_bl (m := false)) ras_nil))))))))).t
  (rs_one (rs_ret (re_bl (m := false))))
  rs_nil)
  (rs_seq (rs_if ((rw_or (rt_not (rt_v (re_call (ks := [.fr, .fr]) (fn := (fn_law_same 6)) (ok_law_same T 6) (hr.mono (by decide)) T.m_law_same T.f_law_same.kp T.b_law_same (ras_e (re_call (ks := [.fr, .fr]) (fn := fn_recovered_store) (ok_recovered_store T) (hr.mono (by decide)) T.m_recovered_store T.f_recovered_store.kp T.b_recovered_store (ras_e (re_tup (m := false) (ra_cons (re_tup (m := false) (ra_cons (re_int (m := false)) (ra_cons (re_int (m := false)) ra_nil))) ra_nil)) (ras_e (re_v 3) ras_nil))) (ras_e (re_tup (m := false) (ra_cons (re_tup (m := false) (ra_cons (re_int (m := false)) (ra_cons (re_int (m := false)) ra_nil))) ra_nil)) ras_nil))))) (rw_or (rt_not (rt_v (re_call (ks := [.fr, .fr]) (fn := (fn_law_same 6)) (ok_law_same T 6) (hr.mono (by decide)) T.m_law_same T.f_law_same.kp T.b_law_same (ras_e (re_call (ks := [.fr, .fr]) (fn := fn_can_be_left) (ok_can_be_left T) (hr.mono (by decide)) T.m_can_be_left T.f_can_be_left.kp T.b_can_be_left (ras_e (re_tup (m := false) (ra_cons (re_tup (m := false) (ra_cons (re_int (m := false)) (ra_cons (re_int (m := false)) ra_nil))) (ra_cons (re_tup (m := false) (ra_cons (re_int (m := false)) (ra_cons (re_int (m := false)) ra_nil))) ra_nil))) (ras_e (re_v 3) ras_nil))) (ras_e (re_bl (m := false)) ras_nil))))) (rw_or1 (rt_not (rt_v (re_call (ks := [.fr, .fr]) (fn := (fn_law_same 6)) (ok_law_same T 6) (hr.mono (by decide)) T.m_law_same T.f_law_same.kp T.b_law_same (ras_e (re_call (ks := [.fr, .fr]) (fn := fn_can_be_left) (ok_can_be_left T) (hr.mono (by decide)) T.m_can_be_left T.f_can_be_left.kp T.b_can_be_left (ras_e (re_tup (m := false) (ra_cons (re_tup (m := false) (ra_cons (re_int (m := false)) (ra_cons (re_int (m := false)) ra_nil))) ra_nil)) (ras_e (re_v 3) ras_nil))) (ras_e (re_bl (m := false)) ras_nil))))))))).t
  (rs_one (rs_ret (re_bl (m := false))))
  rs_nil)
  (rs_seq (rs_setF 4 (re_tup (m := false) (ra_cons (re_tup (m := false) (ra_cons (re_int (m := false)) (ra_cons (re_str (m := false)) (ra_cons (re_int (m := false)) (ra_cons (re_int (m := false)) ra_nil))))) (ra_cons (re_tup (m := false) (ra_cons (re_int (m := false)) (ra_cons (re_str (m := false)) ra_nil))) (ra_cons (re_tup (m := false) (ra_cons (re_int (m := false)) (ra_cons (re_str (m := false)) (ra_cons (re_int (m := false)) (ra_cons (re_int (m := false)) ra_nil))))) (ra_cons (re_tup (m := false) (ra_cons (re_int (m := false)) (ra_cons (re_str (m := false)) (ra_cons (re_int (m := false)) (ra_cons (re_int (m := false)) ra_nil))))) ra_nil))))) S.nd)
  (rs_seq (rs_if ((rw_or (rt_not (rt_v (re_call (ks := [.fr, .fr]) (fn := (fn_law_same 6)) (ok_law_same T 6) (hr.mono (by decide)) T.m_law_same T.f_law_same.kp T.b_law_same (ras_e (re_call (ks := [.fr]) (fn := fn_is_strict) (ok_is_strict T) (hr.mono (by decide)) T.m_is_strict T.f_is_strict.kp T.b_is_strict (ras_e (re_v 4) ras_nil)) (ras_e (re_bl (m := false)) ras_nil))))) (rw_or (rt_not (rt_v (re_call (ks := [.fr, .fr]) (fn := (fn_law_same 6)) (ok_law_same T 6) (hr.mono (by decide)) T.m_law_same T.f_law_same.kp T.b_law_same (ras_e (re_call (ks := [.fr, .fr]) (fn := fn_recovered_store) (ok_recovered_store T) (hr.mono (by decide)) T.m_recovered_store T.f_recovered_store.kp T.b_recovered_store (ras_e (re_tup (m := false) ra_nil) (ras_e (re_v 4) ras_nil))) (ras_e (re_tup (m := false) (ra_cons (re_tup (m := false) (ra_cons (re_int (m := false)) (ra_cons (re_int (m := false)) ra_nil))) ra_nil)) ras_nil))))) (rw_or1 (rt_not (rt_v (re_call (ks := [.fr, .fr]) (fn := (fn_law_same 6)) (ok_law_same T 6) (hr.mono (by decide)) T.m_law_same T.f_law_same.kp T.b_law_same (ras_e (re_call (ks := [.fr]) (fn := fn_short_journal) (ok_short_journal T) (hr.mono (by decide)) T.m_short_journal T.f_short_journal.kp T.b_short_journal (ras_e (re_v 4) ras_nil)) (ras_e (re_dn (re_slice (rr_of (re_v 4)) (ro_s (re_int (m := false))) ro_n)) ras_nil))))))))).t
  (rs_one (rs_ret (re_bl (m := false))))
  rs_nil)
  (rs_one (rs_ret (re_and (re_call (ks := [.io, .fr]) (fn := fn_law_is_told) (ok_law_is_told T) (hr.mono (by decide)) T.m_law_is_told T.f_law_is_told.kp T.b_law_is_told (ras_i 1 (ras_e (re_v 3) ras_nil))) (re_and (re_call (ks := [.io, .fr]) (fn := fn_law_is_told) (ok_law_is_told T) (hr.mono (by decide)) T.m_law_is_told T.f_law_is_told.kp T.b_law_is_told (ras_i 1 (ras_e (re_v 4) ras_nil))) (re_one (re_call (ks := [.fr, .fr]) (fn := (fn_law_same 6)) (ok_law_same T 6) (hr.mono (by decide)) T.m_law_same T.f_law_same.kp T.b_law_same (ras_e (re_call (ks := [.fr, .fr]) (fn := fn_can_be_left) (ok_can_be_left T) (hr.mono (by decide)) T.m_can_be_left T.f_can_be_left.kp T.b_can_be_left (ras_e (re_tup (m := false) ra_nil) (ras_e (re_tup (m := false) ra_nil) ras_nil))) (ras_e (re_bl (m := false)) ras_nil)))))))))))))))
end
end K40
namespace K40
open PySem PySem.Spec PyProof.Rows L2 Pv

abbrev Deed := Int × Option (Int × Int)
def eD : Deed → PV
  | (a, none) => .tup [.int a, .str "end"]
  | (a, some (p, v)) => .tup [.int a, .str "set", .int p, .int v]
abbrev eJ (J : List Deed) : PV := .tup (J.map eD)
@[simp] theorem se1 : ((Str.ofString "set") == (Str.ofString "end")) = false := by decide +kernel
@[simp] theorem se2 : ((Str.ofString "end") == (Str.ofString "set")) = false := by decide +kernel
@[simp] theorem so1 : PyData.strOk (Str.ofString "set") = true := by decide +kernel
@[simp] theorem so2 : PyData.strOk (Str.ofString "end") = true := by decide +kernel
theorem pl_eJ {n : Nat} {J : List Deed} (h : J.length ≤ 1000000) : pl (n + 2) (eJ J) = true := by
  rw [pl_tup, Bool.and_eq_true, decide_eq_true_eq, List.length_map]
  refine ⟨h, pls_all.mpr fun p hp => ?_⟩
  obtain ⟨⟨a, _ | ⟨p, v⟩⟩, _, rfl⟩ := List.mem_map.mp hp <;> simp [eD]
theorem dts_eJ {n : Nat} (J : List Deed) : dts (n + 1) (J.map eD) = true := by
  rw [dts_all]
  refine List.all_eq_true.mpr fun p hp => ?_
  obtain ⟨⟨a, _ | ⟨p, v⟩⟩, _, rfl⟩ := List.mem_map.mp hp <;> simp [eD]

theorem as_pairs_eq {D : List (Int × Int)} (h : D.length < 64) : fn_as_pairs [eK D] = some (eS (mkS D), [eK D]) := by
  unfold fn_as_pairs b_as_pairs
  have hc := eLc_map (fi := iE (e1 pSortI (eV 0))) (g := gN 1) (tt := tV (e2 pNe (e2 pItem (eV 0) (eV 1)) (eC (.int 0)))) (te := eTup (eCons (eV 1) (eCons (e2 pItem (eV 0) (eV 1)) eNil))) (vs := [1]) (ρ := [some (eK D), none])
    (bb := fun p => (getI D p).getD 0 != 0) (e := fun p => eP (p, (getI D p).getD 0)) (xs := isort (D.map (·.1))) PV.int (by simp [pSortI_kk h]) (fun x hx => by
      obtain ⟨v, hv⟩ := getI_mem (mem_isort.mp hx)
      simp [wipeP, valP_kk, hv, eP, lim_def, bne])
  simp [hc, mkS, List.map_map, Function.comp_def]
theorem law_pairs_eq {D : List (Int × Int)} (h : D.length < 64) : fn_law_pairs [eK D] = some (eS (mkS D), [eK D]) := as_pairs_eq h

def endsL (J : List Deed) : List Int := (J.filter fun d => d.2.isNone).map (·.1)
theorem endsL_len (J : List Deed) : (endsL J).length ≤ J.length := by
  unfold endsL
  rw [List.length_map]
  exact List.length_filter_le _ _
theorem law_ended_eq {J : List Deed} (h : J.length < 64) : fn_law_ended [eJ J] = some (.lst ((sset (endsL J)).map .int), [eJ J]) := by
  unfold fn_law_ended b_law_ended
  have hc := eLc_map (fi := iE (eV 0)) (g := gN 1) (tt := tV (e2 pEq (e2 pItem (eV 1) (eC (.int 1))) (eC (.str "end")))) (te := e2 pItem (eV 1) (eC (.int 0))) (vs := [1]) (ρ := [some (eJ J), none])
    (bb := fun d : Deed => d.2.isNone) (e := fun d => PV.int d.1) (xs := J) eD (by simp) (fun x hx => by
      rcases x with ⟨a, _ | ⟨p, v⟩⟩ <;> simp [wipeP, eD])
  have hm : ((J.filter fun d => d.2.isNone).map fun d => PV.int d.1) = (endsL J).map PV.int := by simp [endsL, List.map_map, Function.comp_def]
  rw [hm] at hc
  simp [hc, pSortSet_l (Nat.lt_of_le_of_lt (endsL_len J) h)]
theorem ended_in_eq {J : List Deed} (h : J.length < 64) : fn_ended_in [eJ J] = some (.tup ((sset (endsL J)).map .int), [eJ J]) := by
  unfold fn_ended_in b_ended_in
  have hc := eLc_map (fi := iE (eV 0)) (g := gN 1) (tt := tV (e2 pEq (e2 pItem (eV 1) (eC (.int 1))) (eC (.str "end")))) (te := e2 pItem (eV 1) (eC (.int 0))) (vs := [1]) (ρ := [some (eJ J), none])
    (bb := fun d : Deed => d.2.isNone) (e := fun d => PV.int d.1) (xs := J) eD (by simp) (fun x hx => by
      rcases x with ⟨a, _ | ⟨p, v⟩⟩ <;> simp [wipeP, eD])
  have hm : ((J.filter fun d => d.2.isNone).map fun d => PV.int d.1) = (endsL J).map PV.int := by simp [endsL, List.map_map, Function.comp_def]
  rw [hm] at hc
  simp [hc, pSortSet_l (Nat.lt_of_le_of_lt (endsL_len J) h)]

/-- the sets of those askers -/
def upd1 (A : List Int) (D : List (Int × Int)) (d : Deed) : List (Int × Int) := match d with
  | (_, none) => D
  | (a, some (p, v)) => if a ∈ A then putI D p v else D
theorem upd1_len (A : List Int) (D : List (Int × Int)) (d : Deed) : (upd1 A D d).length ≤ D.length + 1 := by
  rcases d with ⟨a, _ | ⟨p, v⟩⟩
  · exact Nat.le_succ _
  · show (if a ∈ A then putI D p v else D).length ≤ _
    split
    · exact putI_len _ _ _
    · omega
theorem fold_len {α : Type} {f : List (Int × Int) → α → List (Int × Int)} (hf : ∀ D d, (f D d).length ≤ D.length + 1) : ∀ (J : List α) (D : List (Int × Int)), (J.foldl f D).length ≤ D.length + J.length
  | [], D => by simp
  | d :: J, D => by
    have h1 := fold_len hf J (f D d)
    have h2 := hf D d
    simp only [List.foldl_cons, List.length_cons]; omega
theorem redone_eq {J : List Deed} (h : J.length < 60) : fn_redone_store [eJ J] = some (eS (mkS (J.foldl (upd1 (sset (endsL J))) [])), [eJ J]) := by
  unfold fn_redone_store b_redone_store
  have he := ended_in_eq (J := J) (by omega)
  generalize sset (endsL J) = A at he
  obtain ⟨ρ', h1, o, hρ⟩ := loop_pre (R := fun pre ρ => ∃ o, ρ = [some (eJ J), some (.tup (A.map .int)), some (eK (pre.foldl (upd1 A) [])), o]) (enc := eD) (g := gN 3) (b := l_redone_store1) (xs := J)
    (ρ := [some (eJ J), some (.tup (A.map .int)), some (.dct []), none]) (fun pre d post ρ e ⟨o, hρ⟩ => by
      subst hρ
      have hl : (pre.foldl (upd1 A) []).length < LIM := by
        have h1 := fold_len (upd1_len A) pre []
        have := congrArg List.length e
        simp at this h1
        rw [lim_def]; omega
      rw [List.foldl_append]
      generalize pre.foldl (upd1 A) [] = D at hl
      rcases d with ⟨a, _ | ⟨p, v⟩⟩
      · simp [l_redone_store1, eD, upd1]
      · by_cases ha : a ∈ A
        · simp [l_redone_store1, eD, upd1, ha, hl, dts_ints, any_peq_int2, putP_kk]
        · simp [l_redone_store1, eD, upd1, ha, dts_ints, any_peq_int2]) ⟨none, rfl⟩
  subst hρ
  have hl : (J.foldl (upd1 A) []).length < 64 := by
    have h1 := fold_len (upd1_len A) J []
    simp at h1; omega
  simp [he, h1, as_pairs_eq hl]

theorem short_eq {J : List Deed} (h : J.length < 60) : fn_short_journal [eJ J] = some (eJ (J.filter fun d => !decide (d.1 ∈ sset (endsL J))), [eJ J]) := by
  unfold fn_short_journal b_short_journal
  have he := ended_in_eq (J := J) (by omega)
  generalize sset (endsL J) = A at *
  have hc := eLc_map (fi := iE (eV 0)) (g := gN 2) (tt := tV (e2 pNotIn (e2 pItem (eV 2) (eC (.int 0))) (eV 1))) (te := eV 2) (vs := [2]) (ρ := [some (eJ J), some (.tup (A.map .int)), none])
    (bb := fun d : Deed => !decide (d.1 ∈ A)) (e := eD) (xs := J) eD (by simp) (fun x hx => by
      rcases x with ⟨a, _ | ⟨p, v⟩⟩ <;> simp [wipeP, eD, dts_ints, any_peq_int2])
  simp [he, hc]

/-- all sets of a journal, one behind the other -/
def updA (D : List (Int × Int)) (d : Deed) : List (Int × Int) := match d.2 with
  | none => D
  | some q => putI D q.1 q.2
theorem updA_len (D : List (Int × Int)) (d : Deed) : (updA D d).length ≤ D.length + 1 := by
  rcases d with ⟨a, _ | ⟨p, v⟩⟩
  · exact Nat.le_succ _
  · exact putI_len _ _ _
def lastD (J : List Deed) : List (Int × Int) := J.foldl updA []
theorem lastD_len (J : List Deed) : (lastD J).length ≤ J.length := by
  have := fold_len updA_len J []
  simpa [lastD] using this
theorem lastD_snoc (J : List Deed) (d : Deed) : lastD (J ++ [d]) = updA (lastD J) d := by
  unfold lastD
  rw [List.foldl_append]; rfl
/-- what stood ahead of line i -/
def aheadAt (J : List Deed) (i : Nat) : Int := match J[i]? with
  | some (_, some (p, _)) => (getI (lastD (J.take i)) p).getD 0
  | _ => 0
theorem values_ahead_eq {J : List Deed} (h : J.length < 60) : ∃ fs : List Int, fn_values_ahead [eJ J] = some (.lst (fs.map .int), [eJ J]) ∧ fs.length = J.length ∧ ∀ i < J.length, fs[i]? = some (aheadAt J i) := by
  unfold fn_values_ahead b_values_ahead
  obtain ⟨ρ', h1, o, fs, hρ, h2, h3⟩ := loop_pre (R := fun pre ρ => ∃ (o : Option PV) (fs : List Int), ρ = [some (eJ J), some (eK (lastD pre)), some (.lst (fs.map .int)), o] ∧ fs.length = pre.length ∧ ∀ i < pre.length, fs[i]? = some (aheadAt J i)) (enc := eD) (g := gN 3) (b := l_values_ahead1) (xs := J)
    (ρ := [some (eJ J), some (.dct []), some (.lst []), none]) (fun pre d post ρ e ⟨o, fs, hρ, h2, h3⟩ => by
      subst hρ
      have hp : pre.length < 60 := by
        have := congrArg List.length e
        simp at this; omega
      have hl : (lastD pre).length < LIM := by
        have h1 := lastD_len pre
        rw [lim_def]; omega
      have hf : fs.length < LIM := by rw [lim_def]; omega
      have hJ : J[pre.length]? = some d := by rw [e]; simp
      have hT : J.take pre.length = pre := by rw [e]; simp
      rw [lastD_snoc]
      have hn : ∀ (x : Int), aheadAt J pre.length = x → (fs ++ [x]).length = (pre ++ [d]).length ∧ ∀ i < (pre ++ [d]).length, (fs ++ [x])[i]? = some (aheadAt J i) := fun x hx => ⟨by simp [h2], fun i hi => by
        simp at hi
        by_cases hlt : i < pre.length
        · rw [List.getElem?_append_left (by omega)]; exact h3 i hlt
        · have : i = fs.length := by omega
          subst this
          rw [h2, hx, ← h2]
          simp⟩
      rcases d with ⟨a, _ | ⟨p, v⟩⟩
      · obtain ⟨n1, n2⟩ := hn 0 (by unfold aheadAt; rw [hJ])
        exact ⟨(.nx, [some (eJ J), some (eK (lastD pre)), some (.lst ((fs ++ [0]).map .int)), some (eD (a, none))]), by simp [l_values_ahead1, eD, hf], .inl rfl, _, fs ++ [0], rfl, n1, n2⟩
      · obtain ⟨n1, n2⟩ := hn ((getI (lastD pre) p).getD 0) (by unfold aheadAt; rw [hJ, hT])
        have hg : (Option.map PV.int (getI (lastD pre) p)).getD (PV.int 0) = PV.int ((getI (lastD pre) p).getD 0) := by cases getI (lastD pre) p <;> rfl
        exact ⟨(.nx, [some (eJ J), some (eK (putI (lastD pre) p v)), some (.lst ((fs ++ [(getI (lastD pre) p).getD 0]).map .int)), some (eD (a, some (p, v)))]), by simp [l_values_ahead1, eD, hf, valP_kk, hl, putP_kk, hg], .inl rfl, _, fs ++ [(getI (lastD pre) p).getD 0], rfl, n1, n2⟩) ⟨none, [], rfl, rfl, fun i hi => by simp at hi⟩
  subst hρ
  exact ⟨fs, by simp [h1, lim_def], h2, h3⟩

/-- one line undone, the i-th from behind -/
def und1 (J : List Deed) (A : List Int) (D : List (Int × Int)) (i : Nat) : List (Int × Int) := match J[J.length - 1 - i]? with
  | some (a, some (p, _)) => if a ∈ A then D else putI D p (aheadAt J (J.length - 1 - i))
  | _ => D
theorem und1_len (J : List Deed) (A : List Int) (D : List (Int × Int)) (i : Nat) : (und1 J A D i).length ≤ D.length + 1 := by
  unfold und1
  split
  · split
    · omega
    · exact putI_len _ _ _
  · omega
def undD (S : List (Int × Int)) (J : List Deed) : List (Int × Int) := (List.range J.length).foldl (und1 J (sset (endsL J))) (setAll [] S)
theorem undD_len (S : List (Int × Int)) (J : List Deed) : (undD S J).length ≤ S.length + J.length := by
  have h1 := fold_len (und1_len J (sset (endsL J))) (List.range J.length) (setAll [] S)
  have h2 := setAll_len S []
  simp at h1 h2
  unfold undD; omega
theorem range_at {n x : Nat} {pre post : List Nat} (e : List.range n = pre ++ x :: post) : x = pre.length ∧ x < n := by
  have h1 : (List.range n)[pre.length]? = some x := by rw [e]; simp
  rw [List.getElem?_range (by have := congrArg List.length e; simp at this; omega)] at h1
  have := Option.some.inj h1
  have := congrArg List.length e
  simp at this
  omega
theorem undone_eq {S : List (Int × Int)} {J : List Deed} (h : S.length + J.length < 60) : fn_undone_store [eS S, eJ J] = some (eS (mkS (undD S J)), [eS S, eJ J]) := by
  unfold fn_undone_store b_undone_store
  have he := ended_in_eq (J := J) (by omega)
  obtain ⟨fs, ha, hfl, hfs⟩ := values_ahead_eq (J := J) (by omega)
  have hu := undD_len S J
  unfold undD at *
  generalize sset (endsL J) = A at *
  have hd := eDc_pairs (fi := iE (eV 0)) (g := gT' 2 (gsC (gN 6) (gsC (gN 7) gsN))) (tt := tYesF) (te := eV 6) (tv := eV 7) (vs := [6, 7]) (S := S) (ρ := [some (eS S), some (eJ J), some (.tup (A.map .int)), some (.lst (fs.map .int)), none, none, none, none]) (by simp) (fun q hq => by simp [wipeP, eP])
  obtain ⟨r1, r2⟩ := rgC_down J.length (by omega)
  obtain ⟨ρ', h1, o, hρ⟩ := loop_pre (R := fun pre ρ => ∃ (o : Option PV), ρ = [some (eS S), some (eJ J), some (.tup (A.map .int)), some (.lst (fs.map .int)), some (eK (pre.foldl (und1 J A) (setAll [] S))), o, none, none]) (enc := fun (i : Nat) => PV.int ((J.length - 1 - i : Nat) : Int)) (g := gN 5) (b := l_undone_store1) (xs := List.range J.length)
    (ρ := [some (eS S), some (eJ J), some (.tup (A.map .int)), some (.lst (fs.map .int)), some (eK (setAll [] S)), none, none, none]) (fun pre i post ρ e ⟨o, hρ⟩ => by
      subst hρ
      obtain ⟨hi, hlt⟩ := range_at e
      have hl : (pre.foldl (und1 J A) (setAll [] S)).length < LIM := by
        have h1 := fold_len (und1_len J A) pre (setAll [] S)
        have h2 := setAll_len S []
        simp at h1 h2
        rw [lim_def]; omega
      rw [List.foldl_append]
      generalize pre.foldl (und1 J A) (setAll [] S) = D at *
      obtain ⟨d, hd⟩ : ∃ d, J[J.length - 1 - i]? = some d := ⟨_, List.getElem?_eq_getElem (by omega)⟩
      have hf := hfs (J.length - 1 - i) (by omega)
      simp only [List.foldl_cons, List.foldl_nil]
      unfold und1
      rw [hd]
      generalize J.length - 1 - i = k at *
      rcases d with ⟨a, _ | ⟨p, v⟩⟩
      · simp [l_undone_store1, hd, eD]
      · by_cases hA : a ∈ A
        · simp [l_undone_store1, hd, eD, hA, dts_ints, any_peq_int2]
        · simp [l_undone_store1, hd, eD, hA, dts_ints, any_peq_int2, hf, hl, putP_kk]) ⟨none, rfl⟩
  subst hρ
  simp [he, ha, hd, r1, r2, h1, as_pairs_eq (Nat.lt_of_le_of_lt hu (by omega))]

/-! ### the law's own -/
theorem law_undone_eq {S : List (Int × Int)} {J : List Deed} (h : S.length + J.length < 60) : fn_law_undone [eS S, eJ J] = some (eS (mkS (undD S J)), [eS S, eJ J]) := by
  unfold fn_law_undone b_law_undone
  have he := law_ended_eq (J := J) (by omega)
  have hu := undD_len S J
  unfold undD at *
  generalize sset (endsL J) = A at *
  obtain ⟨ρ1, h1, o4, o5, hρ1⟩ := loop_pre (R := fun pre ρ => ∃ (o4 o5 : Option PV), ρ = [some (eS S), some (eJ J), some (.lst (A.map .int)), some (eK (setAll [] pre)), o4, o5, none, none, none, none]) (enc := eP) (g := gT' 2 (gsC (gN 4) (gsC (gN 5) gsN))) (b := l_law_undone1) (xs := S)
    (ρ := [some (eS S), some (eJ J), some (.lst (A.map .int)), some (.dct []), none, none, none, none, none, none]) (fun pre q post ρ e ⟨o4, o5, hρ⟩ => by
      subst hρ
      have hl : (setAll [] pre).length < LIM := by
        have h1 := setAll_len pre []
        have := congrArg List.length e
        simp at this h1
        rw [lim_def]; omega
      rw [setAll_snoc]
      simp [l_law_undone1, eP, hl, putP_kk]) ⟨none, none, rfl⟩
  subst hρ1
  have hrg : rgP 1 J.length = (List.range J.length).map fun (i : Nat) => PV.int (1 + (i : Int)) := rfl
  have hrb : rgB 1 ((J.length : Int) + 1) = true := rgB_of (by omega)
  obtain ⟨ρ2, h2, p4, p5, o, o7, o8, hρ2⟩ := loop_pre (R := fun pre ρ => ∃ (p4 p5 o o7 o8 : Option PV), ρ = [some (eS S), some (eJ J), some (.lst (A.map .int)), some (eK (pre.foldl (und1 J A) (setAll [] S))), p4, p5, o, o7, o8, none]) (enc := fun (i : Nat) => PV.int (1 + (i : Int))) (g := gN 6) (b := l_law_undone2) (xs := List.range J.length)
    (ρ := [some (eS S), some (eJ J), some (.lst (A.map .int)), some (eK (setAll [] S)), o4, o5, none, none, none, none]) (fun pre i post ρ e ⟨p4, p5, o, o7, o8, hρ⟩ => by
      subst hρ
      obtain ⟨hi, hlt⟩ := range_at e
      have hl : (pre.foldl (und1 J A) (setAll [] S)).length < LIM := by
        have h1 := fold_len (und1_len J A) pre (setAll [] S)
        have h2 := setAll_len S []
        simp at h1 h2
        rw [lim_def]; omega
      rw [List.foldl_append]
      generalize pre.foldl (und1 J A) (setAll [] S) = D at *
      obtain ⟨d, hd⟩ : ∃ d, J[J.length - 1 - i]? = some d := ⟨_, List.getElem?_eq_getElem (by omega)⟩
      have hat : (J.length : Int) - (1 + (i : Int)) = ((J.length - 1 - i : Nat) : Int) := by omega
      have hk : J.length - 1 - i < J.length := by omega
      simp only [List.foldl_cons, List.foldl_nil]
      unfold und1 aheadAt
      rw [hd]
      generalize J.length - 1 - i = k at *
      rcases d with ⟨a, _ | ⟨p, v⟩⟩
      · simp [l_law_undone2, hat, hd, eD]
      · by_cases hA : a ∈ A
        · simp [l_law_undone2, hat, hd, eD, hA, dts_ints, any_peq_int2]
        · have hc := eLc_map (fi := iE (eSl (eV 1) oN (oS (eV 7)))) (g := gN 9) (tt := tAndF (tV (e2 pEq (e2 pItem (eV 9) (eC (.int 1))) (eC (.str "set")))) (tV (e2 pEq (e2 pItem (eV 9) (eC (.int 2))) (e2 pItem (e2 pItem (eV 1) (eV 7)) (eC (.int 2)))))) (te := e2 pItem (eV 9) (eC (.int 3))) (vs := [9])
            (ρ := [some (eS S), some (eJ J), some (.lst (A.map .int)), some (eK D), p4, p5, some (.int (1 + (i : Int))), some (.int (k : Int)), o8, none])
            (bb := fun d : Deed => match d.2 with | some q => decide (q.1 = p) | none => false) (e := fun d => match d.2 with | some q => PV.int q.2 | none => .non) (xs := J.take k) eD (by simp [cutP_take (xs := J.map eD) (k := k) (by simp; omega), List.map_take]) (fun x hx => by
              rcases x with ⟨b, _ | ⟨p', v'⟩⟩
              · simp [wipeP, eD]
              · simp [wipeP, eD, hd]; rfl)
          have hm : ((J.take k).filter fun d : Deed => match d.2 with | some q => decide (q.1 = p) | none => false).map (fun d => match d.2 with | some q => PV.int q.2 | none => .non) = (((J.take k).filterMap (·.2)).filter fun q => decide (q.1 = p)).map fun q => PV.int q.2 := by
            generalize J.take k = L
            induction L with
            | nil => rfl
            | cons x L ih =>
              rcases x with ⟨b, _ | ⟨p', v'⟩⟩
              · simpa using ih
              · by_cases hp : p' = p
                · simp [hp, ih]
                · simp [hp, ih]
          rw [hm] at hc
          have hlast : lastD (J.take k) = setAll [] ((J.take k).filterMap (·.2)) := by
            generalize J.take k = L
            unfold lastD setAll
            generalize ([] : List (Int × Int)) = D0
            induction L generalizing D0 with
            | nil => rfl
            | cons x L ih =>
              rcases x with ⟨b, _ | ⟨p', v'⟩⟩
              · simpa [updA] using ih D0
              · simpa [updA] using ih _
          have hg := getI_setAll ((J.take k).filterMap (·.2)) p
          rw [← hlast] at hg
          have hll : (((J.take k).filterMap (·.2)).filter fun q => decide (q.1 = p)).length ≤ J.length := by
            refine Nat.le_trans (List.length_filter_le _ _) (Nat.le_trans (List.length_filterMap_le _ _) ?_)
            simp; omega
          generalize ((J.take k).filterMap (·.2)).filter (fun q => decide (q.1 = p)) = L at *
          have hat1 : atI (PV.int 0 :: L.map fun q => PV.int q.2) (-1) = some (.int ((getI (lastD (J.take k)) p).getD 0)) := by
            rw [atI_neg1 _ (List.cons_ne_nil _ _), hg]
            have : (PV.int 0 :: L.map fun q => PV.int q.2) = (0 :: L.map (·.2)).map PV.int := by simp
            simp only [this, List.getLast_map]
          have hll' : 1 + L.length ≤ LIM := by rw [lim_def]; omega
          have hll2 : L.length + 1 ≤ LIM := by omega
          simp [l_law_undone2, hat, hd, eD, hA, dts_ints, any_peq_int2, hc, hll', hll2, lim_def, hat1, hl, putP_kk]) ⟨o4, o5, none, none, none, rfl⟩
  subst hρ2
  simp [he, h1, h2, hrg, hrb, law_pairs_eq (Nat.lt_of_le_of_lt hu (by omega))]

theorem upd1_foldl_len (A : List Int) (J : List Deed) (D : List (Int × Int)) : (J.foldl (upd1 A) D).length ≤ D.length + J.length := fold_len (upd1_len A) J D
theorem pfx_len {α : Type} {J pre post : List α} {d : α} (e : J = pre ++ d :: post) : pre.length < J.length := by
  have := congrArg List.length e
  simp at this; omega
theorem law_made_eq {S : List (Int × Int)} {J : List Deed} {A : List Int} (h : S.length + J.length < 60) : fn_law_made [eS S, eJ J, .lst (A.map .int)] = some (eS (mkS (J.foldl (upd1 A) (setAll [] S))), [eS S, eJ J, .lst (A.map .int)]) := by
  unfold fn_law_made b_law_made
  obtain ⟨ρ1, h1, o4, o5, hρ1⟩ := loop_pre (R := fun pre ρ => ∃ (o4 o5 : Option PV), ρ = [some (eS S), some (eJ J), some (.lst (A.map .int)), some (eK (setAll [] pre)), o4, o5, none]) (enc := eP) (g := gT' 2 (gsC (gN 4) (gsC (gN 5) gsN))) (b := l_law_made1) (xs := S)
    (ρ := [some (eS S), some (eJ J), some (.lst (A.map .int)), some (.dct []), none, none, none]) (fun pre q post ρ e ⟨o4, o5, hρ⟩ => by
      subst hρ
      have hl : (setAll [] pre).length < LIM := by
        have h1 := setAll_len pre []
        have := pfx_len e
        simp at h1
        rw [lim_def]; omega
      rw [setAll_snoc]
      simp [l_law_made1, eP, hl, putP_kk]) ⟨none, none, rfl⟩
  subst hρ1
  obtain ⟨ρ2, h2, p4, p5, o6, hρ2⟩ := loop_pre (R := fun pre ρ => ∃ (o4 o5 o6 : Option PV), ρ = [some (eS S), some (eJ J), some (.lst (A.map .int)), some (eK (pre.foldl (upd1 A) (setAll [] S))), o4, o5, o6]) (enc := eD) (g := gN 6) (b := l_law_made2) (xs := J)
    (ρ := [some (eS S), some (eJ J), some (.lst (A.map .int)), some (eK (setAll [] S)), o4, o5, none]) (fun pre d post ρ e ⟨o4, o5, o6, hρ⟩ => by
      subst hρ
      have hl : (pre.foldl (upd1 A) (setAll [] S)).length < LIM := by
        have h1 := upd1_foldl_len A pre (setAll [] S)
        have h2 := setAll_len S []
        have := pfx_len e
        simp at h2
        rw [lim_def]; omega
      rw [List.foldl_append]
      generalize pre.foldl (upd1 A) (setAll [] S) = D at hl
      rcases d with ⟨a, _ | ⟨p, v⟩⟩
      · simp [l_law_made2, eD, upd1]
      · by_cases ha : a ∈ A
        · simp [l_law_made2, eD, upd1, ha, hl, dts_ints, any_peq_int2, putP_kk]
        · simp [l_law_made2, eD, upd1, ha, dts_ints, any_peq_int2]) ⟨o4, o5, none, rfl⟩
  subst hρ2
  have hl : (J.foldl (upd1 A) (setAll [] S)).length < 64 := by
    have h1 := upd1_foldl_len A J (setAll [] S)
    have h2 := setAll_len S []
    simp at h2; omega
  simp [h1, h2, law_pairs_eq hl]
theorem upd1_all {A : List Int} : ∀ (J : List Deed) (D : List (Int × Int)), (∀ d ∈ J, d.1 ∈ A) → J.foldl (upd1 A) D = J.foldl updA D
  | [], D, _ => rfl
  | d :: J, D, h => by
    have hd := h d (.head _)
    have e : upd1 A D d = updA D d := by
      rcases d with ⟨a, _ | ⟨p, v⟩⟩
      · rfl
      · exact if_pos hd
    rw [List.foldl_cons, List.foldl_cons, e]
    exact upd1_all J _ fun x hx => h x (.tail _ hx)
theorem recovered_eq {S : List (Int × Int)} {J : List Deed} (h : S.length + J.length + J.length < 60) : fn_recovered_store [eS S, eJ J] = some (eS (mkS (undD (mkS (J.foldl updA (setAll [] S))) J)), [eS S, eJ J]) := by
  unfold fn_recovered_store b_recovered_store
  have hd := eDc_pairs (fi := iE (eV 0)) (g := gT' 2 (gsC (gN 4) (gsC (gN 5) gsN))) (tt := tYesF) (te := eV 4) (tv := eV 5) (vs := [4, 5]) (S := S) (ρ := [some (eS S), some (eJ J), none, none, none, none]) (by simp) (fun q hq => by simp [wipeP, eP])
  obtain ⟨ρ1, h1, o, hρ⟩ := loop_pre (R := fun pre ρ => ∃ (o : Option PV), ρ = [some (eS S), some (eJ J), some (eK (pre.foldl updA (setAll [] S))), o, none, none]) (enc := eD) (g := gN 3) (b := l_recovered_store1) (xs := J)
    (ρ := [some (eS S), some (eJ J), some (eK (setAll [] S)), none, none, none]) (fun pre d post ρ e ⟨o, hρ⟩ => by
      subst hρ
      have hl : (pre.foldl updA (setAll [] S)).length < LIM := by
        have h1 := fold_len updA_len pre (setAll [] S)
        have h2 := setAll_len S []
        have := pfx_len e
        simp at h2
        rw [lim_def]; omega
      rw [List.foldl_append]
      generalize pre.foldl updA (setAll [] S) = D at hl
      rcases d with ⟨a, _ | ⟨p, v⟩⟩
      · simp [l_recovered_store1, eD, updA]
      · simp [l_recovered_store1, eD, updA, hl, putP_kk]) ⟨none, rfl⟩
  subst hρ
  have hl : (J.foldl updA (setAll [] S)).length ≤ S.length + J.length := by
    have h1 := fold_len updA_len J (setAll [] S)
    have h2 := setAll_len S []
    simp at h2; omega
  have hm := mkS_len (J.foldl updA (setAll [] S))
  simp [hd, h1, as_pairs_eq (show (J.foldl updA (setAll [] S)).length < 64 by omega), undone_eq (S := mkS (J.foldl updA (setAll [] S))) (J := J) (by omega)]

/-! ### what can be left -/
def setsL (J : List Deed) : List (Int × Int) := J.filterMap (·.2)
theorem setsL_map (J : List Deed) : ((J.filter fun d : Deed => d.2.isSome).map fun d => match d.2 with | some q => eP q | none => PV.non) = (setsL J).map eP := by
  induction J with
  | nil => rfl
  | cons d J ih =>
    rcases d with ⟨a, _ | ⟨p, v⟩⟩
    · simpa [setsL] using ih
    · simpa [setsL] using ih
theorem any_peq_eP (l : List (Int × Int)) (q : Int × Int) : (l.any ((fun z => peq z (eP q)) ∘ eP)) = decide (q ∈ l) := by
  induction l with
  | nil => simp
  | cons x l ih =>
    rw [List.any_cons, ih]
    rcases x with ⟨x, y⟩
    rcases q with ⟨p, v⟩
    by_cases h1 : x = p
    · by_cases h2 : y = v
      · simp [eP, h1, h2]
      · have : ¬ v = y := fun z => h2 z.symm
        simp [eP, h1, h2, this]
    · have : ¬ p = x := fun z => h1 z.symm
      simp [eP, h1, this]
theorem dts_eP {n : Nat} (l : List (Int × Int)) : dts (n + 1) (l.map eP) = true := by
  rw [dts_all]
  refine List.all_eq_true.mpr fun p hp => ?_
  obtain ⟨q, _, rfl⟩ := List.mem_map.mp hp
  simp [eP]
theorem bls_map {α : Type} (f : α → Bool) : ∀ l : List α, bls (l.map fun x => PV.bl (f x)) = some (l.map f)
  | [] => rfl
  | x :: l => by
    show (bls (l.map fun x => PV.bl (f x))).map (f x :: ·) = _
    rw [bls_map f l]; rfl
theorem left_eq {S : List (Int × Int)} {J : List Deed} : fn_can_be_left [eS S, eJ J] = some (.bl (S.all fun q => decide (q ∈ setsL J)), [eS S, eJ J]) := by
  unfold fn_can_be_left b_can_be_left
  have hc := eLc_map (fi := iE (eV 1)) (g := gN 3) (tt := tV (e2 pEq (e2 pItem (eV 3) (eC (.int 1))) (eC (.str "set")))) (te := eTup (eCons (e2 pItem (eV 3) (eC (.int 2))) (eCons (e2 pItem (eV 3) (eC (.int 3))) eNil))) (vs := [3]) (ρ := [some (eS S), some (eJ J), none, none, none])
    (bb := fun d : Deed => d.2.isSome) (e := fun d => match d.2 with | some q => eP q | none => PV.non) (xs := J) eD (by simp) (fun x hx => by
      rcases x with ⟨a, _ | ⟨p, v⟩⟩ <;> simp [wipeP, eD, eP, lim_def])
  rw [setsL_map] at hc
  have hc2 := eLc_map (fi := iE (eV 0)) (g := gN 4) (tt := tYesF) (te := e2 pIn (eV 4) (eV 2)) (vs := [4]) (ρ := [some (eS S), some (eJ J), some (.lst ((setsL J).map eP)), none, none])
    (bb := fun _ => true) (e := fun q => PV.bl (decide (q ∈ setsL J))) (xs := S) eP (by simp) (fun x hx => by
      have hx1 : dt 40 (eP x) = true := by simp [eP]
      simp [wipeP, hx1, dts_eP, any_peq_eP])
  rw [List.filter_eq_self.mpr (by simp)] at hc2
  have hall : pAll (.lst (S.map fun q => PV.bl (decide (q ∈ setsL J)))) = some (.bl (S.all fun q => decide (q ∈ setsL J))) := by
    show (bls _).map _ = _
    rw [bls_map]
    simp [List.all_map, Function.comp_def]
  simp [hc, hc2, hall]

/-! ### strict -/
def stepO (O : List (Int × Int)) (d : Deed) : List (Int × Int) := match d with
  | (a, none) => O.filter fun o => !(o.1 == a)
  | (a, some (p, _)) => O ++ [(a, p)]
def opens (J : List Deed) : List (Int × Int) := J.foldl stepO []
def okO (O : List (Int × Int)) (d : Deed) : Bool := match d with
  | (_, none) => true
  | (a, some (p, _)) => !(O.any fun o => o.2 == p && !(o.1 == a))
def okAt (J : List Deed) (k : Nat) : Bool := match J[k]? with
  | some d => okO (opens (J.take k)) d
  | none => true
theorem opens_snoc (J : List Deed) (d : Deed) : opens (J ++ [d]) = stepO (opens J) d := by
  unfold opens
  rw [List.foldl_append]; rfl
theorem opens_len (J : List Deed) : (opens J).length ≤ J.length := by
  have : ∀ (J : List Deed) (O : List (Int × Int)), (J.foldl stepO O).length ≤ O.length + J.length := by
    intro J
    induction J with
    | nil => intro O; simp
    | cons d J ih =>
      intro O
      have h1 := ih (stepO O d)
      have h2 : (stepO O d).length ≤ O.length + 1 := by
        rcases d with ⟨a, _ | ⟨p, v⟩⟩
        · exact Nat.le_trans (List.length_filter_le _ _) (Nat.le_succ _)
        · simp [stepO]
      simp only [List.foldl_cons, List.length_cons]; omega
  simpa [opens] using this J []
theorem strict_eq {J : List Deed} (h : J.length < 60) : fn_is_strict [eJ J] = some (.bl ((List.range J.length).all (okAt J)), [eJ J]) := by
  unfold fn_is_strict b_is_strict
  obtain ⟨⟨o, ρ'⟩, h1, ho, o2, tl, hρ⟩ : Ev (loopF (gN 2) l_is_strict1 (J.map eD) [some (eJ J), some (.lst []), none, none, none]) fun r => r.1 = (if (List.range J.length).all (okAt J) = true then Out.nx else .rt (.bl false)) ∧ ∃ o2 tl, r.2 = some (eJ J) :: o2 :: tl := by
    refine loop_ev (I := fun pre ρ => (List.range pre.length).all (okAt J) = true ∧ ∃ o2, ρ = [some (eJ J), some (.lst ((opens pre).map eP)), o2, none, none]) J [] _ (fun pre d post ρ e ⟨hall, o2, hρ⟩ => ?_) (fun ρ ⟨hall, o2, hρ⟩ => ⟨(if_pos hall).symm, _, _, hρ⟩) ⟨rfl, none, rfl⟩
    have e' : J = pre ++ d :: post := by simpa using e
    subst hρ
    have hJ : J[pre.length]? = some d := by rw [e']; simp
    have hT : J.take pre.length = pre := by rw [e']; simp
    have hok : okAt J pre.length = okO (opens pre) d := by unfold okAt; rw [hJ, hT]
    have hlt := pfx_len e'
    have hno : okO (opens pre) d = false → (List.range J.length).all (okAt J) = false := fun z => by
      rw [← hok] at z
      rw [List.all_eq_false]
      exact ⟨pre.length, List.mem_range.mpr hlt, by simpa using z⟩
    have hyes : okO (opens pre) d = true → (List.range (pre ++ [d]).length).all (okAt J) = true := fun z => by
      rw [List.length_append, List.length_singleton, List.range_succ, List.all_append, hall]
      simp [hok, z]
    have hol := opens_len pre
    rw [opens_snoc]
    generalize opens pre = O at *
    rcases d with ⟨a, _ | ⟨p, v⟩⟩
    · have hc := eLc_map (fi := iE (eV 1)) (g := gT' 2 (gsC (gN 3) (gsC (gN 4) gsN))) (tt := tV (e2 pNe (eV 3) (e2 pItem (eV 2) (eC (.int 0))))) (te := eTup (eCons (eV 3) (eCons (eV 4) eNil))) (vs := [3, 4]) (ρ := [some (eJ J), some (.lst (O.map eP)), some (.tup [.int a, .str "end"]), none, none])
        (bb := fun o : Int × Int => !(o.1 == a)) (e := eP) (xs := O) eP (by simp) (fun x hx => by simp [wipeP, eD, eP, lim_def])
      have hy := hyes rfl
      refine ⟨(.nx, [some (eJ J), some (.lst ((O.filter fun o => !(o.1 == a)).map eP)), some (eD (a, none)), none, none]), ?_, hy, _, rfl⟩
      simp [l_is_strict1, eD, hc]
    · have hc := eLc_map (fi := iE (eV 1)) (g := gT' 2 (gsC (gN 3) (gsC (gN 4) gsN))) (tt := tYesF) (te := eAnd (e2 pEq (eV 4) (e2 pItem (eV 2) (eC (.int 2)))) (e2 pNe (eV 3) (e2 pItem (eV 2) (eC (.int 0))))) (vs := [3, 4]) (ρ := [some (eJ J), some (.lst (O.map eP)), some (.tup [.int a, .str "set", .int p, .int v]), none, none])
        (bb := fun _ => true) (e := fun o : Int × Int => PV.bl (o.2 == p && !(o.1 == a))) (xs := O) eP (by simp) (fun x hx => by
          by_cases hp : x.2 = p <;> simp [wipeP, eD, eP, lim_def, hp])
      rw [List.filter_eq_self.mpr (by simp)] at hc
      have hany : pAny (.lst (O.map fun o => PV.bl (o.2 == p && !(o.1 == a)))) = some (.bl (O.any fun o => o.2 == p && !(o.1 == a))) := by
        show (bls _).map _ = _
        rw [bls_map]
        simp [List.any_map, Function.comp_def]
      have hlim : O.length < LIM := by rw [lim_def]; omega
      by_cases hb : (O.any fun o => o.2 == p && !(o.1 == a)) = true
      · have hz : okO O (a, some (p, v)) = false := by
          show (!(O.any fun o => o.2 == p && !(o.1 == a))) = false
          rw [hb]; rfl
        refine ⟨(.rt (.bl false), [some (eJ J), some (.lst (O.map eP)), some (eD (a, some (p, v))), none, none]), ?_, by simp [hno hz], _, _, rfl⟩
        rw [hb] at hany
        simp [l_is_strict1, eD, hc, hany]
      · have hb' : (O.any fun o => o.2 == p && !(o.1 == a)) = false := by simpa using hb
        have hz : okO O (a, some (p, v)) = true := by
          show (!(O.any fun o => o.2 == p && !(o.1 == a))) = true
          rw [hb']; rfl
        refine ⟨(.nx, [some (eJ J), some (.lst ((O ++ [(a, p)]).map eP)), some (eD (a, some (p, v))), none, none]), ?_, hyes hz, _, rfl⟩
        rw [hb'] at hany
        have h2 : (2 : Nat) ≤ LIM := by rw [lim_def]; decide
        simp [l_is_strict1, eD, hc, hany, eP, hlim, h2]
  have hρ' : ρ' = some (eJ J) :: o2 :: tl := hρ
  have ho' : o = (if (List.range J.length).all (okAt J) = true then Out.nx else .rt (.bl false)) := ho
  subst hρ'
  subst ho'
  by_cases hA : (List.range J.length).all (okAt J) = true
  · rw [if_pos hA] at h1
    simp [lim_def, h1]
    simpa using hA
  · rw [if_neg hA] at h1
    simp [lim_def, h1]
    simpa using hA

theorem any_peq_end (b : Int) (L : List Deed) : (L.any ((fun z => peq z (.tup [.int b, .str "end"])) ∘ eD)) = decide ((b, none) ∈ L) := by
  induction L with
  | nil => simp
  | cons x L ih =>
    rw [List.any_cons, ih]
    rcases x with ⟨c, _ | ⟨p, v⟩⟩
    · by_cases h : c = b
      · simp [eD, h]
      · have h' : ¬ b = c := fun z => h z.symm
        simp [eD, h, h']
    · simp [eD]
def bp (J : List Deed) (k : Nat) (a p : Int) (i : Nat) : Bool := match J[i]? with
  | some (b, some (q, _)) => q == p && (!(b == a) && !(decide ((b, none) ∈ (J.drop i).take (k - i))))
  | _ => false
def okL (J : List Deed) (k : Nat) : Bool := match J[k]? with
  | some (a, some (p, _)) => (List.range k).all fun i => !(bp J k a p i)
  | _ => true
theorem law_strict_eq {J : List Deed} (h : J.length < 60) : fn_law_strict [eJ J] = some (.bl ((List.range J.length).all (okL J)), [eJ J]) := by
  unfold fn_law_strict b_law_strict
  obtain ⟨⟨o, ρ'⟩, h1, ho, o1, o2, o3, hρ⟩ := loop_all (R := fun ρ => ∃ o1 o2 o3, ρ = [some (eJ J), o1, o2, o3]) (t := okL J) (enc := fun (i : Nat) => PV.int (i : Int)) (g := gN 1) (b := l_law_strict2) (List.range J.length) [some (eJ J), none, none, none] (fun k hk ρ ⟨o1, o2, o3, hρ⟩ => by
    have hk := List.mem_range.mp hk
    subst hρ
    obtain ⟨d, hd⟩ : ∃ d, J[k]? = some d := ⟨_, List.getElem?_eq_getElem hk⟩
    unfold okL
    rw [hd]
    rcases d with ⟨a, _ | ⟨p, v⟩⟩
    · simp [l_law_strict2, hd, eD]
    · have hr : rgB 0 (k : Int) = true := rgB_of (by omega)
      have hin := loop_all (R := fun ρ => ∃ o2 o3, ρ = [some (eJ J), some (.int k), o2, o3]) (t := fun i => !(bp J k a p i)) (enc := fun (i : Nat) => PV.int (i : Int)) (g := gN 2) (b := l_law_strict1) (List.range k) [some (eJ J), some (.int k), o2, o3] (fun i hi ρ ⟨o2, o3, hρ⟩ => by
        have hi := List.mem_range.mp hi
        subst hρ
        obtain ⟨e, he⟩ : ∃ e, J[i]? = some e := ⟨_, List.getElem?_eq_getElem (by omega)⟩
        have hcut : cutP (J.map eD) (some (i : Int)) (some (k : Int)) = ((J.drop i).take (k - i)).map eD := by
          rw [cutP_mid (by simp; omega) (by simp; omega), List.map_take, List.map_drop]
        unfold bp
        rw [he]
        rcases e with ⟨b, _ | ⟨q, u⟩⟩
        · simp [l_law_strict1, he, eD]
        · generalize (J.drop i).take (k - i) = L at *
          by_cases hq : q = p
          · by_cases hb : b = a
            · simp [l_law_strict1, he, hd, eD, hq, hb]
            · by_cases hm : (b, none) ∈ L
              · simp [l_law_strict1, he, hd, eD, hq, hb, lim_def, hcut, dts_eJ, any_peq_end, hm]
              · simp [l_law_strict1, he, hd, eD, hq, hb, lim_def, hcut, dts_eJ, any_peq_end, hm]
          · simp [l_law_strict1, he, hd, eD, hq]) ⟨o2, o3, rfl⟩
      obtain ⟨⟨o, ρ'⟩, h1, ho, o2, o3, hρ⟩ := hin
      have hρ' : ρ' = _ := hρ
      subst hρ'
      have ho' : o = _ := ho
      simp only [gN_ap, Option.bind_some, List.set_cons_succ, List.set_cons_zero]
      refine ⟨(o, _), ?_, ho', some (.int k), o2, o3, rfl⟩
      simp [l_law_strict2, hd, eD, hr, rgP0, h1]) ⟨none, none, none, rfl⟩
  have hρ' : ρ' = _ := hρ
  have ho' : o = _ := ho
  subst hρ'
  subst ho'
  have hr : rgB 0 (J.length : Int) = true := rgB_of (by omega)
  by_cases hA : (List.range J.length).all (okL J) = true
  · rw [if_pos hA] at h1
    simp [hr, rgP0, h1]
    simpa using hA
  · rw [if_neg hA] at h1
    simp [hr, rgP0, h1]
    simpa using hA
theorem mem_opens (L : List Deed) (b q : Int) : (b, q) ∈ opens L ↔ ∃ i v, L[i]? = some (b, some (q, v)) ∧ (b, none) ∉ L.drop i := by
  rcases List.eq_nil_or_concat L with rfl | ⟨L', d, rfl⟩
  · simp [opens]
  · have ih := mem_opens L' b q
    rw [List.concat_eq_append, opens_snoc]
    have hlt : ∀ {i v}, L'[i]? = some (b, some (q, v)) → i < L'.length := fun h => (List.getElem?_eq_some_iff.mp h).1
    rcases d with ⟨a, _ | ⟨p, u⟩⟩
    · show (b, q) ∈ (opens L').filter (fun o => !(o.1 == a)) ↔ _
      rw [List.mem_filter, ih]
      constructor
      · rintro ⟨⟨i, v, h1, h2⟩, h3⟩
        have hl := hlt h1
        refine ⟨i, v, by rw [List.getElem?_append_left hl]; exact h1, ?_⟩
        rw [List.drop_append_of_le_length (Nat.le_of_lt hl), List.mem_append]
        rintro (z | z)
        · exact h2 z
        · simp at z h3
          exact h3 z
      · rintro ⟨i, v, h1, h2⟩
        have hl : i < L'.length := by
          rcases Nat.lt_or_ge i L'.length with z | z
          · exact z
          · rw [List.getElem?_append_right z] at h1
            rcases Nat.eq_zero_or_pos (i - L'.length) with y | y
            · rw [y] at h1; simp at h1
            · rw [List.getElem?_eq_none (by simp; omega)] at h1; cases h1
        rw [List.getElem?_append_left hl] at h1
        rw [List.drop_append_of_le_length (Nat.le_of_lt hl), List.mem_append] at h2
        refine ⟨⟨i, v, h1, fun z => h2 (.inl z)⟩, ?_⟩
        have : ¬ b = a := fun z => h2 (.inr (by simp [z]))
        simpa using this
    · show (b, q) ∈ opens L' ++ [(a, p)] ↔ _
      rw [List.mem_append, ih]
      constructor
      · rintro (⟨i, v, h1, h2⟩ | h)
        · have hl := hlt h1
          refine ⟨i, v, by rw [List.getElem?_append_left hl]; exact h1, ?_⟩
          rw [List.drop_append_of_le_length (Nat.le_of_lt hl), List.mem_append]
          rintro (z | z)
          · exact h2 z
          · simp at z
        · simp at h
          obtain ⟨rfl, rfl⟩ := h
          exact ⟨L'.length, u, by simp, by simp⟩
      · rintro ⟨i, v, h1, h2⟩
        rcases Nat.lt_or_ge i L'.length with hl | hl
        · rw [List.getElem?_append_left hl] at h1
          rw [List.drop_append_of_le_length (Nat.le_of_lt hl), List.mem_append] at h2
          exact .inl ⟨i, v, h1, fun z => h2 (.inl z)⟩
        · rw [List.getElem?_append_right hl] at h1
          rcases Nat.eq_zero_or_pos (i - L'.length) with y | y
          · rw [y] at h1
            simp at h1
            exact .inr (by simp [h1.1, h1.2.1])
          · rw [List.getElem?_eq_none (by simp; omega)] at h1; cases h1
termination_by L.length
decreasing_by subst_vars; simp
theorem okAt_okL (J : List Deed) (k : Nat) : okAt J k = okL J k := by
  unfold okAt okL
  cases hd : J[k]? with
  | none => rfl
  | some d =>
    have hk : k < J.length := (List.getElem?_eq_some_iff.mp hd).1
    rcases d with ⟨a, _ | ⟨p, v⟩⟩
    · rfl
    · show (!((opens (J.take k)).any fun o => o.2 == p && !(o.1 == a))) = (List.range k).all fun i => !(bp J k a p i)
      rw [← List.not_any_eq_all_not]
      congr 1
      rw [Bool.eq_iff_iff, List.any_eq_true, List.any_eq_true]
      constructor
      · rintro ⟨⟨b, q⟩, h1, h2⟩
        obtain ⟨i, u, h3, h4⟩ := (mem_opens _ _ _).mp h1
        simp at h2
        have hi : i < k := by
          have := (List.getElem?_eq_some_iff.mp h3).1
          simp at this; omega
        rw [List.getElem?_take_of_lt hi] at h3
        refine ⟨i, List.mem_range.mpr hi, ?_⟩
        rw [List.drop_take] at h4
        unfold bp
        rw [h3]
        simp [h2, h4]
      · rintro ⟨i, hi, h2⟩
        have hi := List.mem_range.mp hi
        unfold bp at h2
        cases he : J[i]? with
        | none => rw [he] at h2; cases h2
        | some e =>
          rcases e with ⟨b, _ | ⟨q, u⟩⟩
          · rw [he] at h2; cases h2
          · rw [he] at h2
            simp at h2
            refine ⟨(b, q), (mem_opens _ _ _).mpr ⟨i, u, by rw [List.getElem?_take_of_lt hi]; exact he, ?_⟩, by simp [h2]⟩
            rw [List.drop_take]
            exact h2.2.2

/-! ### what is drawn -/
theorem take_q (ds : List Int) {n : Int} (hn : 0 < n) : ∃ (t : Nat) (ds' : List Int), (t : Int) < n ∧ fn_law_take [.lst (ds.map .int), .int n] = some (.int t, [.lst (ds'.map .int), .int n]) := take_nat ds hn
theorem cell_q (ns ds : List Int) : ∃ (c : Int) (ds' : List Int), fn_law_cell [.lst (ns.map .int), .lst (ds.map .int)] = some (.int c, [.lst (ns.map .int), .lst (ds'.map .int)]) := by
  obtain ⟨c, ds', _, h⟩ := cell_eq ns ds
  exact ⟨c, ds', h⟩
theorem journal_eq (ns ds : List Int) (m : Nat) (hm : m ≤ 1000) : ∃ (J : List Deed) (ds' : List Int), J.length ≤ m ∧ fn_law_journal [.lst (ds.map .int), .lst (ns.map .int), .int m] = some (eJ J, [.lst (ds'.map .int), .lst (ns.map .int), .int m]) := by
  unfold fn_law_journal b_law_journal
  obtain ⟨t1, d1, l1, e1⟩ := take_q ds (n := 3) (by decide)
  obtain ⟨t2, d2, l2, e2⟩ := take_q d1 (n := 3) (by decide)
  obtain ⟨c, d3, e3⟩ := cell_q ns d2
  obtain ⟨t4, d4, l4, e4⟩ := take_q d3 (n := 3) (by decide)
  obtain ⟨t5, d5, l5, e5⟩ := take_q d4 (n := (m : Int) + 1) (by omega)
  have hsc : ∃ s : Int, ([PV.int 1, PV.int 1, PV.int (1 + (if c < 0 then -c else c))])[t4]? = some (.int s) := by
    have : t4 = 0 ∨ t4 = 1 ∨ t4 = 2 := by omega
    rcases this with h | h | h <;> subst h
    · exact ⟨1, rfl⟩
    · exact ⟨1, rfl⟩
    · exact ⟨_, rfl⟩
  obtain ⟨s, hs⟩ := hsc
  have hr : rgB 0 (t5 : Int) = true := rgB_of (by omega)
  obtain ⟨ρ', h1, J, ds', o7, o8, hρ, hJ⟩ := loop_pre (R := fun pre ρ => ∃ (J : List Deed) (ds : List Int) (o7 o8 : Option PV), ρ = [some (.lst (ds.map .int)), some (.lst (ns.map .int)), some (.int m), some (.int (1 + t1)), some (.int (1 + t2)), some (.int s), some (.lst (J.map eD)), o7, o8] ∧ J.length = pre.length)
    (enc := fun (i : Nat) => PV.int (i : Int)) (g := gN 7) (b := l_law_journal1) (xs := List.range t5) (ρ := [some (.lst (d5.map .int)), some (.lst (ns.map .int)), some (.int m), some (.int (1 + t1)), some (.int (1 + t2)), some (.int s), some (.lst []), none, none]) (fun pre k post ρ e ⟨J, ds, o7, o8, hρ, hJ⟩ => by
      subst hρ
      obtain ⟨hi, hlt⟩ := range_at e
      have hl : J.length < LIM := by rw [lim_def]; omega
      obtain ⟨a, x1, _, f1⟩ := take_q ds (n := 1 + (t1 : Int)) (by omega)
      obtain ⟨b, x2, _, f2⟩ := take_q x1 (n := 4) (by decide)
      have h2 : (2 : Nat) ≤ LIM := by rw [lim_def]; decide
      have h4 : (4 : Nat) ≤ LIM := by rw [lim_def]; decide
      by_cases hb : b = 0
      · subst hb
        refine ⟨(.nx, [some (.lst (x2.map .int)), some (.lst (ns.map .int)), some (.int m), some (.int (1 + t1)), some (.int (1 + t2)), some (.int s), some (.lst ((J ++ [((a : Int), none)]).map eD)), some (.int k), some (.int a)]), ?_, .inl rfl, J ++ [((a : Int), none)], x2, _, _, rfl, by simp [hJ]⟩
        simp [l_law_journal1, f1, f2, hl, eD, h2]
      · obtain ⟨p, x3, _, f3⟩ := take_q x2 (n := 1 + (t2 : Int)) (by omega)
        obtain ⟨v, x4, hv, f4⟩ := take_q x3 (n := 5) (by decide)
        have hg : mulG ((v : Int) - 1) s := mulG_l (by omega)
        refine ⟨(.nx, [some (.lst (x4.map .int)), some (.lst (ns.map .int)), some (.int m), some (.int (1 + t1)), some (.int (1 + t2)), some (.int s), some (.lst ((J ++ [((a : Int), some ((p : Int), ((v : Int) - 1) * s))]).map eD)), some (.int k), some (.int a)]), ?_, .inl rfl, J ++ [((a : Int), some ((p : Int), ((v : Int) - 1) * s))], x4, _, _, rfl, by simp [hJ]⟩
        have hb' : ¬ ((b : Int) = 0) := by omega
        simp [l_law_journal1, f1, f2, hb, f3, f4, hg, hl, eD, h4]) ⟨[], d5, none, none, rfl, rfl⟩
  subst hρ
  refine ⟨J, ds', by simp at hJ; omega, ?_⟩
  have h3 : (3 : Nat) ≤ LIM := by rw [lim_def]; decide
  simp [e1, e2, e3, e4, e5, hs, hr, rgP0, h1, h3]
theorem store_eq (ds : List Int) {J : List Deed} (hJ : J.length ≤ 20) : ∃ (S : List (Int × Int)) (ds' : List Int), S.length ≤ J.length + 1 ∧ fn_law_store [.lst (ds.map .int), eJ J] = some (eS S, [.lst (ds'.map .int), eJ J]) := by
  unfold fn_law_store b_law_store
  obtain ⟨ρ', h1, D, d1, o, hρ, hD⟩ := loop_pre (R := fun pre ρ => ∃ (D : List (Int × Int)) (ds : List Int) (o : Option PV), ρ = [some (.lst (ds.map .int)), some (eJ J), some (eK D), o] ∧ D.length ≤ pre.length) (enc := eD) (g := gN 3) (b := l_law_store1) (xs := J)
    (ρ := [some (.lst (ds.map .int)), some (eJ J), some (.dct []), none]) (fun pre d post ρ e ⟨D, ds, o, hρ, hD⟩ => by
      subst hρ
      have hlt := pfx_len e
      have hl : D.length < LIM := by rw [lim_def]; omega
      rcases d with ⟨a, _ | ⟨p, v⟩⟩
      · refine ⟨(.nx, [some (.lst (ds.map .int)), some (eJ J), some (eK D), some (eD (a, none))]), ?_, .inl rfl, D, ds, _, rfl, by simp; omega⟩
        simp [l_law_store1, eD]
      · obtain ⟨t, x1, ht, f1⟩ := take_q ds (n := 2) (by decide)
        by_cases hb : t = 0
        · subst hb
          have := putI_len D p v
          refine ⟨(.nx, [some (.lst (x1.map .int)), some (eJ J), some (eK (putI D p v)), some (eD (a, some (p, v)))]), ?_, .inl rfl, putI D p v, x1, _, rfl, by simp; omega⟩
          simp [l_law_store1, eD, f1, hl, putP_kk]
        · have hb' : ¬ ((t : Int) = 0) := by omega
          refine ⟨(.nx, [some (.lst (x1.map .int)), some (eJ J), some (eK D), some (eD (a, some (p, v)))]), ?_, .inl rfl, D, x1, _, rfl, by simp; omega⟩
          simp [l_law_store1, eD, f1, hb]) ⟨[], ds, none, rfl, by simp⟩
  subst hρ
  obtain ⟨t, d2, ht, f1⟩ := take_q d1 (n := 3) (by decide)
  by_cases hb : t = 0
  · subst hb
    obtain ⟨v, d3, _, f2⟩ := take_q d2 (n := 5) (by decide)
    obtain ⟨p, d4, _, f3⟩ := take_q d3 (n := 5) (by decide)
    have hp := putI_len D p v
    have hm := mkS_len (putI D p v)
    have hl : D.length < LIM := by rw [lim_def]; omega
    refine ⟨mkS (putI D p v), d4, by omega, ?_⟩
    simp [h1, f1, f2, f3, hl, putP_kk, law_pairs_eq (show (putI D p v).length < 64 by omega)]
  · have hb' : ¬ ((t : Int) = 0) := by omega
    have hm := mkS_len D
    refine ⟨mkS D, d2, by omega, ?_⟩
    simp [h1, f1, hb, law_pairs_eq (show D.length < 64 by omega)]
theorem same_q (p : PV) (h : pl 5 p = true) : fn_law_same 6 [p, p] = some (.bl true, [p, p]) := by
  have e : ∀ n, fn_law_same n = fnc_same n := fun n => by
    induction n with
    | zero => rfl
    | succ n ih =>
      show runF 3 _ (b_law_same (fn_law_same n)) = runF 3 _ (bc_same (fnc_same n))
      rw [ih]; rfl
  rw [e]
  exact same_refl 5 p h

/-! ### the whole -/
theorem sset_mem_ends {J : List Deed} : (∀ d ∈ J, d.1 ∈ sset (J.map (·.1))) := fun d hd => mem_sset.mpr (List.mem_map.mpr ⟨d, hd, rfl⟩)
theorem setsL_mem {J : List Deed} {q : Int × Int} : q ∈ setsL J ↔ ∃ a, (a, some q) ∈ J := by
  unfold setsL
  rw [List.mem_filterMap]
  constructor
  · rintro ⟨⟨a, o⟩, h1, h2⟩
    have h2' : o = some q := h2
    subst h2'
    exact ⟨a, h1⟩
  · rintro ⟨a, h⟩
    exact ⟨_, h, rfl⟩
theorem told_body {J : List Deed} (hJ : J.length ≤ 14) (ds : List Int) (E : PV) (V : List Int) (hV : ∀ d ∈ J, d.1 ∈ V) (o4 o5 o6 : Option PV) : ∃ (ds' : List Int) (p5 p6 : Option PV),
    l_law_is_told1 [some (.lst (ds.map .int)), some (eJ J), some E, some (.lst (V.map .int)), o4, o5, o6, none, none] = some (.nx, [some (.lst (ds'.map .int)), some (eJ J), some E, some (.lst (V.map .int)), o4, p5, p6, none, none]) := by
  obtain ⟨S, d1, hS, f1⟩ := store_eq ds (J := J) (by omega)
  -- the inner count
  have hin : ∀ q : Int × Int, eLc (iE (eV 1)) (gN 7) (tAndF (tV (e2 pEq (e2 pItem (eV 7) (eC (.int 1))) (eC (.str "set")))) (tV (e2 pEq (eSl (eV 7) (oS (eC (.int 2))) oN) (eV 8)))) (eV 7) [7] [some (.lst (d1.map .int)), some (eJ J), some E, some (.lst (V.map .int)), o4, some (eS S), o6, none, some (eP q)]
      = some (.lst ((J.filter fun d => decide (d.2 = some q)).map eD), [some (.lst (d1.map .int)), some (eJ J), some E, some (.lst (V.map .int)), o4, some (eS S), o6, none, some (eP q)]) := fun q => by
    refine eLc_map (bb := fun d : Deed => decide (d.2 = some q)) (e := eD) (xs := J) eD (by simp) (fun x hx => ?_)
    rcases x with ⟨a, _ | ⟨p, v⟩⟩
    · simp [wipeP, eD]
    · rcases q with ⟨p', v'⟩
      have hcut : cutP [PV.int a, PV.str (Str.ofString "set"), PV.int p, PV.int v] (some 2) none = [PV.int p, PV.int v] := cutP_2 (by simp)
      have : (p == p' && v == v') = decide (p = p' ∧ v = v') := by
        by_cases h1 : p = p' <;> by_cases h2 : v = v' <;> simp [h1, h2]
      simp [wipeP, eD, eP, hcut, pEq_t, this]
  have hout := eLc_map (fi := iE (eV 5)) (g := gN 8) (tt := tV (e2 pEq (e1 pLen (eLc (iE (eV 1)) (gN 7) (tAndF (tV (e2 pEq (e2 pItem (eV 7) (eC (.int 1))) (eC (.str "set")))) (tV (e2 pEq (eSl (eV 7) (oS (eC (.int 2))) oN) (eV 8)))) (eV 7) [7])) (eC (.int 0)))) (te := eV 8) (vs := [8])
    (ρ := [some (.lst (d1.map .int)), some (eJ J), some E, some (.lst (V.map .int)), o4, some (eS S), o6, none, none]) (bb := fun q => !(decide (q ∈ setsL J))) (e := eP) (xs := S) eP (by simp) (fun q hq => by
      have hq' : (((J.filter fun d => decide (d.2 = some q)).length : Int) == 0) = (!(decide (q ∈ setsL J))) := by
        rw [Bool.eq_iff_iff]
        simp [setsL_mem]
        constructor
        · intro h a z; exact h a _ z rfl
        · intro h a o z e; subst e; exact h a z
      simp [wipeP, hin q]
      simpa using hq')
  have hleft : (((S.filter fun q => !(decide (q ∈ setsL J))).length : Int) == 0) = S.all fun q => decide (q ∈ setsL J) := by
    rw [Bool.eq_iff_iff]
    simp
  have hu := undone_eq (S := S) (J := J) (by omega)
  have hlu := law_undone_eq (S := S) (J := J) (by omega)
  have hr := recovered_eq (S := S) (J := J) (by omega)
  have hmd := law_made_eq (S := S) (J := J) (A := V) (by omega)
  rw [upd1_all J _ hV] at hmd
  have hl1 : (J.foldl updA (setAll [] S)).length ≤ S.length + J.length := by
    have h1 := fold_len updA_len J (setAll [] S)
    have h2 := setAll_len S []
    simp at h2; omega
  have hm1 := mkS_len (J.foldl updA (setAll [] S))
  have hlu2 := law_undone_eq (S := mkS (J.foldl updA (setAll [] S))) (J := J) (by omega)
  have hs1 := same_q (eS (mkS (undD S J))) (pl_eS (by have := mkS_len (undD S J); have := undD_len S J; omega))
  have hs2 := same_q (eS (mkS (undD (mkS (J.foldl updA (setAll [] S))) J))) (pl_eS (by have := mkS_len (undD (mkS (J.foldl updA (setAll [] S))) J); have := undD_len (mkS (J.foldl updA (setAll [] S))) J; omega))
  have hs3 := same_q (.bl (S.all fun q => decide (q ∈ setsL J))) (by simp)
  have hlf := left_eq (S := S) (J := J)
  refine ⟨d1, some (eS S), some (.bl (S.all fun q => decide (q ∈ setsL J))), ?_⟩
  simp [l_law_is_told1, f1, hout, hleft]
  simp [hu, hlu, hs1, hlf, hs3, hr, hmd, hlu2, hs2]

theorem told_eq {J : List Deed} (hJ : J.length ≤ 14) (ds : List Int) : ∃ ds' : List Int, fn_law_is_told [.lst (ds.map .int), eJ J] = some (.bl true, [.lst (ds'.map .int), eJ J]) := by
  unfold fn_law_is_told b_law_is_told
  have he := law_ended_eq (J := J) (by omega)
  have hev := eLc_map (fi := iE (eV 1)) (g := gN 7) (tt := tYesF) (te := e2 pItem (eV 7) (eC (.int 0))) (vs := [7]) (ρ := [some (.lst (ds.map .int)), some (eJ J), some (.lst ((sset (endsL J)).map .int)), none, none, none, none, none, none])
    (bb := fun _ => true) (e := fun d : Deed => PV.int d.1) (xs := J) eD (by simp) (fun x hx => by rcases x with ⟨a, _ | ⟨p, v⟩⟩ <;> simp [wipeP, eD])
  rw [List.filter_eq_self.mpr (by simp), show (J.map fun d : Deed => PV.int d.1) = (J.map (·.1)).map PV.int by simp] at hev
  have hss := pSortSet_l (l := J.map (·.1)) (by simp; omega)
  have h1 := ended_in_eq (J := J) (by omega)
  have h2 := redone_eq (J := J) (by omega)
  have h3 := strict_eq (J := J) (by omega)
  have h3' := law_strict_eq (J := J) (by omega)
  rw [show okAt J = okL J from funext fun k => okAt_okL J k] at h3
  have h4 := short_eq (J := J) (by omega)
  have h5 : fn_law_made [.tup [], eJ J, .lst ((sset (endsL J)).map .int)] = some (eS (mkS (J.foldl (upd1 (sset (endsL J))) [])), [.tup [], eJ J, .lst ((sset (endsL J)).map .int)]) := law_made_eq (S := []) (J := J) (A := sset (endsL J)) (by simp; omega)
  have hl1 := endsL_len J
  have hl2 := sset_len (endsL J)
  have s1 := same_q (.tup ((sset (endsL J)).map .int)) (by
    rw [pl_tup, Bool.and_eq_true, decide_eq_true_eq, List.length_map]
    refine ⟨by omega, pls_all.mpr fun p hp => ?_⟩
    obtain ⟨q, _, rfl⟩ := List.mem_map.mp hp
    simp)
  have s2 := same_q (eS (mkS (J.foldl (upd1 (sset (endsL J))) []))) (pl_eS (by
    have := mkS_len (J.foldl (upd1 (sset (endsL J))) [])
    have := upd1_foldl_len (sset (endsL J)) J []
    simp at this; omega))
  have s3 := same_q (.bl ((List.range J.length).all (okL J))) (by simp)
  have s4 := same_q (eJ (J.filter fun d => !decide (d.1 ∈ sset (endsL J)))) (pl_eJ (by
    have := List.length_filter_le (fun d : Deed => !decide (d.1 ∈ sset (endsL J))) J
    omega))
  generalize sset (endsL J) = A at *
  have hsh := eLc_map (fi := iE (eV 1)) (g := gN 7) (tt := tV (e2 pNotIn (e2 pItem (eV 7) (eC (.int 0))) (eV 2))) (te := eV 7) (vs := [7]) (ρ := [some (.lst (ds.map .int)), some (eJ J), some (.lst (A.map .int)), some (.lst ((sset (J.map (·.1))).map .int)), none, none, none, none, none])
    (bb := fun d : Deed => !decide (d.1 ∈ A)) (e := eD) (xs := J) eD (by simp) (fun x hx => by
      rcases x with ⟨a, _ | ⟨p, v⟩⟩ <;> simp [wipeP, eD, dts_ints, any_peq_int2])
  have hr : rgB 0 3 = true := rgB_of (by omega)
  have hr3 : rgP 0 3 = (List.range 3).map fun (i : Nat) => PV.int (i : Int) := rgP0
  obtain ⟨ρ', hl, d1, o4, o5, o6, hρ⟩ := loop_pre (R := fun pre ρ => ∃ (ds : List Int) (o4 o5 o6 : Option PV), ρ = [some (.lst (ds.map .int)), some (eJ J), some (.lst (A.map .int)), some (.lst ((sset (J.map (·.1))).map .int)), o4, o5, o6, none, none]) (enc := fun (i : Nat) => PV.int (i : Int)) (g := gN 4) (b := l_law_is_told1) (xs := List.range 3)
    (ρ := [some (.lst (ds.map .int)), some (eJ J), some (.lst (A.map .int)), some (.lst ((sset (J.map (·.1))).map .int)), none, none, none, none, none]) (fun pre k post ρ e ⟨ds, o4, o5, o6, hρ⟩ => by
      subst hρ
      obtain ⟨d2, p5, p6, hb⟩ := told_body hJ ds (.lst (A.map .int)) (sset (J.map (·.1))) sset_mem_ends (some (.int k)) o5 o6
      exact ⟨_, hb, .inl rfl, d2, _, _, _, rfl⟩) ⟨ds, none, none, none, rfl⟩
  subst hρ
  refine ⟨d1, ?_⟩
  simp at hss
  simp [he, hev, hss, h1, h2, h3, h3', h4, h5, s1, s2, s3, s4, hsh, hr, hr3, hl, lim_def]

def few : List Deed := [(0, some (5, 1)), (1, some (5, 2)), (1, none), (0, some (6, 3)), (2, some (5, 4))]
def good : List Deed := [(0, some (5, 1)), (0, none), (1, some (5, 2)), (1, some (6, 2))]
theorem law_right : ∀ ns : List Int, ns.length ≤ 63 → (∀ z ∈ ns, Builtin.Int.intBits z ≤ 1048576) → ∃ ps', fn_law [.lst (ns.map .int)] = some (.bl true, ps') := by
  intro ns hn _
  unfold fn_law b_law
  obtain ⟨ds, e0⟩ : ∃ ds : List Int, fn_law_draws [.lst (ns.map .int), .int 200] = some (.lst (ds.map .int), [.lst (ns.map .int), .int 200]) := draws_eq ns (by omega) 200 (by decide)
  have hr : rgB 0 2 = true := rgB_of (by omega)
  have hr2 : rgP 0 2 = (List.range 2).map fun (i : Nat) => PV.int (i : Int) := rgP0
  obtain ⟨ρ', hl, d1, o2, hρ⟩ := loop_pre (R := fun pre ρ => ∃ (ds : List Int) (o2 : Option PV), ρ = [some (.lst (ns.map .int)), some (.lst (ds.map .int)), o2, none, none]) (enc := fun (i : Nat) => PV.int (i : Int)) (g := gN 2) (b := l_law1) (xs := List.range 2)
    (ρ := [some (.lst (ns.map .int)), some (.lst (ds.map .int)), none, none, none]) (fun pre k post ρ e ⟨ds, o2, hρ⟩ => by
      subst hρ
      obtain ⟨_, hk⟩ := range_at e
      obtain ⟨m, hm, hmk⟩ : ∃ m : Nat, m ≤ 14 ∧ ([PV.int 6, PV.int 14])[k]? = some (.int (m : Int)) := by
        have : k = 0 ∨ k = 1 := by omega
        rcases this with h | h <;> subst h
        · exact ⟨6, by decide, rfl⟩
        · exact ⟨14, by decide, rfl⟩
      obtain ⟨J, x1, hJ, f1⟩ := journal_eq ns ds m (by omega)
      obtain ⟨x2, f2⟩ := told_eq (J := J) (by omega) x1
      refine ⟨(.nx, [some (.lst (ns.map .int)), some (.lst (x2.map .int)), some (.int k), none, none]), ?_, .inl rfl, x2, _, rfl⟩
      have h2 : (2 : Nat) ≤ LIM := by rw [lim_def]; decide
      simp [l_law1, h2, hmk, f1, f2]) ⟨ds, none, rfl⟩
  subst hρ
  obtain ⟨d2, t1⟩ := told_eq (J := few) (by decide) d1
  obtain ⟨d3, t2⟩ := told_eq (J := good) (by decide) d2
  have a1 := redone_eq (J := few) (by decide)
  rw [show mkS (few.foldl (upd1 (sset (endsL few))) []) = [(5, 2)] by decide] at a1
  have a2 := undone_eq (S := [(5, 4), (6, 3)]) (J := few) (by decide)
  rw [show mkS (undD [(5, 4), (6, 3)] few) = [] by decide] at a2
  have a3 := strict_eq (J := few) (by decide)
  rw [show (List.range few.length).all (okAt few) = false by decide] at a3
  have a4 := recovered_eq (S := [(7, 9)]) (J := few) (by decide)
  rw [show mkS (undD (mkS (few.foldl updA (setAll [] [(7, 9)]))) few) = [(7, 9)] by decide] at a4
  have a5 := left_eq (S := [(5, 1), (6, 3)]) (J := few)
  rw [show (([(5, 1), (6, 3)] : List (Int × Int)).all fun q => decide (q ∈ setsL few)) = true by decide] at a5
  have a6 := left_eq (S := [(5, 3)]) (J := few)
  rw [show (([(5, 3)] : List (Int × Int)).all fun q => decide (q ∈ setsL few)) = false by decide] at a6
  have b1 := strict_eq (J := good) (by decide)
  rw [show (List.range good.length).all (okAt good) = true by decide] at b1
  have b2 := recovered_eq (S := []) (J := good) (by decide)
  rw [show mkS (undD (mkS (good.foldl updA (setAll [] []))) good) = [(5, 1)] by decide] at b2
  have b3 := short_eq (J := good) (by decide)
  rw [show (good.filter fun d => !decide (d.1 ∈ sset (endsL good))) = good.drop 2 by decide] at b3
  have b4 := left_eq (S := []) (J := [])
  have s1 := same_q (eS [(5, 2)]) (pl_eS (by decide))
  have s2 := same_q (eS []) (pl_eS (by decide))
  have s3 := same_q (.bl false) (by simp)
  have s4 := same_q (eS [(7, 9)]) (pl_eS (by decide))
  have s5 := same_q (.bl true) (by simp)
  have s6 := same_q (eS [(5, 1)]) (pl_eS (by decide))
  have s7 := same_q (eJ (good.drop 2)) (pl_eJ (by decide))
  have hcut : ∀ a b c d : PV, cutP [a, b, c, d] (some 2) none = [c, d] := fun a b c d => cutP_2 (by simp)
  simp [few, good, eD, eP, eS, eJ] at t1 t2 a1 a2 a3 a4 a5 a6 b1 b2 b3 b4 s1 s2 s4 s6 s7
  simp [e0, hr, hr2, hl, t1, t2, a1, a2, a3, a4, a5, a6, b1, b2, b3, b4, s1, s2, s3, s4, s5, s6, s7, hcut, lim_def]
end K40

namespace K40
open PySem PySem.Spec PyProof.Rows L2 Pv
def spE (K : PySem.W.Frag) : Sp := fun vs H Q _ => ∃ (a : Addr) (ns : List Int), vs = [.ref a] ∧ SqL K H a (ns.map V.int) ∧ ns.length ≤ 63 ∧ (∀ z ∈ ns, Builtin.Int.intBits z ≤ 1048576) ∧ ∀ H2, Q (.bl true) H2
theorem ok_end {P : Program} {w : World} {K : PySem.W.Frag} {mg : Str → Option Value} {base : Heap} {fa : Nat → Addr} {fd : Nat → FuncData} (T : Tb K mg fa fd) (nl : noL K = true) : FnOk P w K mg base CX0 8 (fa 21) (fd 21) ["script"] (spE K) :=
  (ok_law T).imp fun vs H Q E ⟨a, ns, e, hs, hl, hb, q⟩ => by
    obtain ⟨ps2, hr⟩ := law_right ns hl hb
    subst e
    exact ⟨fun _ => none, [.lst (ns.map .int)], .bl true, ps2, rfl, rfl, StOk.script (sql_rd nl hs) hl, hr, fun v H2 F2 _ _ _ rs => by rw [res_bl rs]; exact q H2⟩
theorem all_mk {l : PySem.W.OpenLaw} {w : World} {K : PySem.W.Frag} {h : Heap} {mg : Str → Option Value} {fa f0 f1 f2 f3 f4 f5 f6 f7 f8 f9 f10 f11 f12 f13 f14 f15 f16 f17 f18 f19 f20 f21 : Addr} (X : K.In h) (G : h.Ns mainGlobals mg) (hfa : mg "law" = some (.ref fa)) (nl : noL K = true)
    {od0 an0 od1 an1 od2 an2 od3 an3 od4 an4 od5 an5 od6 an6 od7 an7 od8 an8 od9 an9 od10 an10 od11 an11 od12 an12 od13 an13 od14 an14 od15 an15 od16 an16 od17 an17 od18 an18 od19 an19 od20 an20 od21 an21 : Option Addr} {sl0 sl1 sl2 sl3 sl4 sl5 sl6 sl7 sl8 sl9 sl10 sl11 sl12 sl13 sl14 sl15 sl16 sl17 sl18 sl19 sl20 sl21 : Array (Option Value)} {oc0 kV0 dc0 pm0 cd0 ct0 oc1 kV1 dc1 pm1 cd1 ct1 oc2 kV2 dc2 pm2 cd2 ct2 oc3 kV3 dc3 pm3 cd3 ct3 oc4 kV4 dc4 pm4 cd4 ct4 oc5 kV5 dc5 pm5 cd5 ct5 oc6 kV6 dc6 pm6 cd6 ct6 oc7 kV7 dc7 pm7 cd7 ct7 oc8 kV8 dc8 pm8 cd8 ct8 oc9 kV9 dc9 pm9 cd9 ct9 oc10 kV10 dc10 pm10 cd10 ct10 oc11 kV11 dc11 pm11 cd11 ct11 oc12 kV12 dc12 pm12 cd12 ct12 oc13 kV13 dc13 pm13 cd13 ct13 oc14 kV14 dc14 pm14 cd14 ct14 oc15 kV15 dc15 pm15 cd15 ct15 oc16 kV16 dc16 pm16 cd16 ct16 oc17 kV17 dc17 pm17 cd17 ct17 oc18 kV18 dc18 pm18 cd18 ct18 oc19 kV19 dc19 pm19 cd19 ct19 oc20 kV20 dc20 pm20 cd20 ct20 oc21 kV21 dc21 pm21 cd21 ct21 : Value}
    (a0 : PySem.W.nsIn K mainGlobals "as_pairs" = some (some (.ref f0))) (l0 : K.lookup f0 = some ⟨oc0, od0, .func (PySem.W.fnOf "as_pairs" "as_pairs" (defArgs s_as_pairs) (defBody s_as_pairs) (defScope s_as_pairs) .none kV0 dc0 pm0 an0 cd0 ct0), sl0⟩) (c0 : PySem.W.codeIn K cd0 "as_pairs" = true) (k0 : PySem.W.keepIn K (.ref f0) = true)
    (a1 : PySem.W.nsIn K mainGlobals "ended_in" = some (some (.ref f1))) (l1 : K.lookup f1 = some ⟨oc1, od1, .func (PySem.W.fnOf "ended_in" "ended_in" (defArgs s_ended_in) (defBody s_ended_in) (defScope s_ended_in) .none kV1 dc1 pm1 an1 cd1 ct1), sl1⟩) (c1 : PySem.W.codeIn K cd1 "ended_in" = true) (k1 : PySem.W.keepIn K (.ref f1) = true)
    (a2 : PySem.W.nsIn K mainGlobals "redone_store" = some (some (.ref f2))) (l2 : K.lookup f2 = some ⟨oc2, od2, .func (PySem.W.fnOf "redone_store" "redone_store" (defArgs s_redone_store) (defBody s_redone_store) (defScope s_redone_store) .none kV2 dc2 pm2 an2 cd2 ct2), sl2⟩) (c2 : PySem.W.codeIn K cd2 "redone_store" = true) (k2 : PySem.W.keepIn K (.ref f2) = true)
    (a3 : PySem.W.nsIn K mainGlobals "values_ahead" = some (some (.ref f3))) (l3 : K.lookup f3 = some ⟨oc3, od3, .func (PySem.W.fnOf "values_ahead" "values_ahead" (defArgs s_values_ahead) (defBody s_values_ahead) (defScope s_values_ahead) .none kV3 dc3 pm3 an3 cd3 ct3), sl3⟩) (c3 : PySem.W.codeIn K cd3 "values_ahead" = true) (k3 : PySem.W.keepIn K (.ref f3) = true)
    (a4 : PySem.W.nsIn K mainGlobals "undone_store" = some (some (.ref f4))) (l4 : K.lookup f4 = some ⟨oc4, od4, .func (PySem.W.fnOf "undone_store" "undone_store" (defArgs s_undone_store) (defBody s_undone_store) (defScope s_undone_store) .none kV4 dc4 pm4 an4 cd4 ct4), sl4⟩) (c4 : PySem.W.codeIn K cd4 "undone_store" = true) (k4 : PySem.W.keepIn K (.ref f4) = true)
    (a5 : PySem.W.nsIn K mainGlobals "recovered_store" = some (some (.ref f5))) (l5 : K.lookup f5 = some ⟨oc5, od5, .func (PySem.W.fnOf "recovered_store" "recovered_store" (defArgs s_recovered_store) (defBody s_recovered_store) (defScope s_recovered_store) .none kV5 dc5 pm5 an5 cd5 ct5), sl5⟩) (c5 : PySem.W.codeIn K cd5 "recovered_store" = true) (k5 : PySem.W.keepIn K (.ref f5) = true)
    (a6 : PySem.W.nsIn K mainGlobals "is_strict" = some (some (.ref f6))) (l6 : K.lookup f6 = some ⟨oc6, od6, .func (PySem.W.fnOf "is_strict" "is_strict" (defArgs s_is_strict) (defBody s_is_strict) (defScope s_is_strict) .none kV6 dc6 pm6 an6 cd6 ct6), sl6⟩) (c6 : PySem.W.codeIn K cd6 "is_strict" = true) (k6 : PySem.W.keepIn K (.ref f6) = true)
    (a7 : PySem.W.nsIn K mainGlobals "can_be_left" = some (some (.ref f7))) (l7 : K.lookup f7 = some ⟨oc7, od7, .func (PySem.W.fnOf "can_be_left" "can_be_left" (defArgs s_can_be_left) (defBody s_can_be_left) (defScope s_can_be_left) .none kV7 dc7 pm7 an7 cd7 ct7), sl7⟩) (c7 : PySem.W.codeIn K cd7 "can_be_left" = true) (k7 : PySem.W.keepIn K (.ref f7) = true)
    (a8 : PySem.W.nsIn K mainGlobals "short_journal" = some (some (.ref f8))) (l8 : K.lookup f8 = some ⟨oc8, od8, .func (PySem.W.fnOf "short_journal" "short_journal" (defArgs s_short_journal) (defBody s_short_journal) (defScope s_short_journal) .none kV8 dc8 pm8 an8 cd8 ct8), sl8⟩) (c8 : PySem.W.codeIn K cd8 "short_journal" = true) (k8 : PySem.W.keepIn K (.ref f8) = true)
    (a9 : PySem.W.nsIn K mainGlobals "_law_draws" = some (some (.ref f9))) (l9 : K.lookup f9 = some ⟨oc9, od9, .func (PySem.W.fnOf "_law_draws" "_law_draws" (defArgs s_law_draws) (defBody s_law_draws) (defScope s_law_draws) .none kV9 dc9 pm9 an9 cd9 ct9), sl9⟩) (c9 : PySem.W.codeIn K cd9 "_law_draws" = true) (k9 : PySem.W.keepIn K (.ref f9) = true)
    (a10 : PySem.W.nsIn K mainGlobals "_law_take" = some (some (.ref f10))) (l10 : K.lookup f10 = some ⟨oc10, od10, .func (PySem.W.fnOf "_law_take" "_law_take" (defArgs s_law_take) (defBody s_law_take) (defScope s_law_take) .none kV10 dc10 pm10 an10 cd10 ct10), sl10⟩) (c10 : PySem.W.codeIn K cd10 "_law_take" = true) (k10 : PySem.W.keepIn K (.ref f10) = true)
    (a11 : PySem.W.nsIn K mainGlobals "_law_cell" = some (some (.ref f11))) (l11 : K.lookup f11 = some ⟨oc11, od11, .func (PySem.W.fnOf "_law_cell" "_law_cell" (defArgs s_law_cell) (defBody s_law_cell) (defScope s_law_cell) .none kV11 dc11 pm11 an11 cd11 ct11), sl11⟩) (c11 : PySem.W.codeIn K cd11 "_law_cell" = true) (k11 : PySem.W.keepIn K (.ref f11) = true)
    (a12 : PySem.W.nsIn K mainGlobals "_law_same" = some (some (.ref f12))) (l12 : K.lookup f12 = some ⟨oc12, od12, .func (PySem.W.fnOf "_law_same" "_law_same" (defArgs s_law_same) (defBody s_law_same) (defScope s_law_same) .none kV12 dc12 pm12 an12 cd12 ct12), sl12⟩) (c12 : PySem.W.codeIn K cd12 "_law_same" = true) (k12 : PySem.W.keepIn K (.ref f12) = true)
    (a13 : PySem.W.nsIn K mainGlobals "_law_journal" = some (some (.ref f13))) (l13 : K.lookup f13 = some ⟨oc13, od13, .func (PySem.W.fnOf "_law_journal" "_law_journal" (defArgs s_law_journal) (defBody s_law_journal) (defScope s_law_journal) .none kV13 dc13 pm13 an13 cd13 ct13), sl13⟩) (c13 : PySem.W.codeIn K cd13 "_law_journal" = true) (k13 : PySem.W.keepIn K (.ref f13) = true)
    (a14 : PySem.W.nsIn K mainGlobals "_law_pairs" = some (some (.ref f14))) (l14 : K.lookup f14 = some ⟨oc14, od14, .func (PySem.W.fnOf "_law_pairs" "_law_pairs" (defArgs s_law_pairs) (defBody s_law_pairs) (defScope s_law_pairs) .none kV14 dc14 pm14 an14 cd14 ct14), sl14⟩) (c14 : PySem.W.codeIn K cd14 "_law_pairs" = true) (k14 : PySem.W.keepIn K (.ref f14) = true)
    (a15 : PySem.W.nsIn K mainGlobals "_law_ended" = some (some (.ref f15))) (l15 : K.lookup f15 = some ⟨oc15, od15, .func (PySem.W.fnOf "_law_ended" "_law_ended" (defArgs s_law_ended) (defBody s_law_ended) (defScope s_law_ended) .none kV15 dc15 pm15 an15 cd15 ct15), sl15⟩) (c15 : PySem.W.codeIn K cd15 "_law_ended" = true) (k15 : PySem.W.keepIn K (.ref f15) = true)
    (a16 : PySem.W.nsIn K mainGlobals "_law_store" = some (some (.ref f16))) (l16 : K.lookup f16 = some ⟨oc16, od16, .func (PySem.W.fnOf "_law_store" "_law_store" (defArgs s_law_store) (defBody s_law_store) (defScope s_law_store) .none kV16 dc16 pm16 an16 cd16 ct16), sl16⟩) (c16 : PySem.W.codeIn K cd16 "_law_store" = true) (k16 : PySem.W.keepIn K (.ref f16) = true)
    (a17 : PySem.W.nsIn K mainGlobals "_law_undone" = some (some (.ref f17))) (l17 : K.lookup f17 = some ⟨oc17, od17, .func (PySem.W.fnOf "_law_undone" "_law_undone" (defArgs s_law_undone) (defBody s_law_undone) (defScope s_law_undone) .none kV17 dc17 pm17 an17 cd17 ct17), sl17⟩) (c17 : PySem.W.codeIn K cd17 "_law_undone" = true) (k17 : PySem.W.keepIn K (.ref f17) = true)
    (a18 : PySem.W.nsIn K mainGlobals "_law_made" = some (some (.ref f18))) (l18 : K.lookup f18 = some ⟨oc18, od18, .func (PySem.W.fnOf "_law_made" "_law_made" (defArgs s_law_made) (defBody s_law_made) (defScope s_law_made) .none kV18 dc18 pm18 an18 cd18 ct18), sl18⟩) (c18 : PySem.W.codeIn K cd18 "_law_made" = true) (k18 : PySem.W.keepIn K (.ref f18) = true)
    (a19 : PySem.W.nsIn K mainGlobals "_law_strict" = some (some (.ref f19))) (l19 : K.lookup f19 = some ⟨oc19, od19, .func (PySem.W.fnOf "_law_strict" "_law_strict" (defArgs s_law_strict) (defBody s_law_strict) (defScope s_law_strict) .none kV19 dc19 pm19 an19 cd19 ct19), sl19⟩) (c19 : PySem.W.codeIn K cd19 "_law_strict" = true) (k19 : PySem.W.keepIn K (.ref f19) = true)
    (a20 : PySem.W.nsIn K mainGlobals "_law_is_told" = some (some (.ref f20))) (l20 : K.lookup f20 = some ⟨oc20, od20, .func (PySem.W.fnOf "_law_is_told" "_law_is_told" (defArgs s_law_is_told) (defBody s_law_is_told) (defScope s_law_is_told) .none kV20 dc20 pm20 an20 cd20 ct20), sl20⟩) (c20 : PySem.W.codeIn K cd20 "_law_is_told" = true) (k20 : PySem.W.keepIn K (.ref f20) = true)
    (a21 : PySem.W.nsIn K mainGlobals "law" = some (some (.ref f21))) (l21 : K.lookup f21 = some ⟨oc21, od21, .func (PySem.W.fnOf "law" "law" (defArgs s_law) (defBody s_law) (defScope s_law) .none kV21 dc21 pm21 an21 cd21 ct21), sl21⟩) (c21 : PySem.W.codeIn K cd21 "law" = true) (k21 : PySem.W.keepIn K (.ref f21) = true)
    (z_abs : PySem.W.nsIn K mainGlobals "abs" = some none)
    (z_all : PySem.W.nsIn K mainGlobals "all" = some none)
    (z_any : PySem.W.nsIn K mainGlobals "any" = some none)
    (z_bool : PySem.W.nsIn K mainGlobals "bool" = some none)
    (z_int : PySem.W.nsIn K mainGlobals "int" = some none)
    (z_isinstance : PySem.W.nsIn K mainGlobals "isinstance" = some none)
    (z_len : PySem.W.nsIn K mainGlobals "len" = some none)
    (z_list : PySem.W.nsIn K mainGlobals "list" = some none)
    (z_range : PySem.W.nsIn K mainGlobals "range" = some none)
    (z_set : PySem.W.nsIn K mainGlobals "set" = some none)
    (z_sorted : PySem.W.nsIn K mainGlobals "sorted" = some none)
    (z_str : PySem.W.nsIn K mainGlobals "str" = some none)
    (z_tuple : PySem.W.nsIn K mainGlobals "tuple" = some none)
    : ∃ fd : FuncData, (∀ (s : Shared) (v : Value), BindsTo s fd ⟨[v], []⟩ [("script", v)]) ∧ ∀ base : Heap, K.In base → base.Ns mainGlobals mg → FnOk l.prog w K mg base CX0 8 fa fd ["script"] (spE K) := by
  have e := hfa.symm.trans (PySem.W.mg_of X G a21)
  cases e
  have F0 := fun_mk (st := s_as_pairs) l0 c0 k0
  have b0 := F0.binds (ps := ["values"]) fun _ _ _ _ _ _ us hl => match us, hl with | [_], _ => rfl
  have F1 := fun_mk (st := s_ended_in) l1 c1 k1
  have b1 := F1.binds (ps := ["journal"]) fun _ _ _ _ _ _ us hl => match us, hl with | [_], _ => rfl
  have F2 := fun_mk (st := s_redone_store) l2 c2 k2
  have b2 := F2.binds (ps := ["journal"]) fun _ _ _ _ _ _ us hl => match us, hl with | [_], _ => rfl
  have F3 := fun_mk (st := s_values_ahead) l3 c3 k3
  have b3 := F3.binds (ps := ["journal"]) fun _ _ _ _ _ _ us hl => match us, hl with | [_], _ => rfl
  have F4 := fun_mk (st := s_undone_store) l4 c4 k4
  have b4 := F4.binds (ps := ["store", "journal"]) fun _ _ _ _ _ _ us hl => match us, hl with | [_, _], _ => rfl
  have F5 := fun_mk (st := s_recovered_store) l5 c5 k5
  have b5 := F5.binds (ps := ["store", "journal"]) fun _ _ _ _ _ _ us hl => match us, hl with | [_, _], _ => rfl
  have F6 := fun_mk (st := s_is_strict) l6 c6 k6
  have b6 := F6.binds (ps := ["journal"]) fun _ _ _ _ _ _ us hl => match us, hl with | [_], _ => rfl
  have F7 := fun_mk (st := s_can_be_left) l7 c7 k7
  have b7 := F7.binds (ps := ["store", "journal"]) fun _ _ _ _ _ _ us hl => match us, hl with | [_, _], _ => rfl
  have F8 := fun_mk (st := s_short_journal) l8 c8 k8
  have b8 := F8.binds (ps := ["journal"]) fun _ _ _ _ _ _ us hl => match us, hl with | [_], _ => rfl
  have F9 := fun_mk (st := s_law_draws) l9 c9 k9
  have b9 := F9.binds (ps := ["script", "many"]) fun _ _ _ _ _ _ us hl => match us, hl with | [_, _], _ => rfl
  have F10 := fun_mk (st := s_law_take) l10 c10 k10
  have b10 := F10.binds (ps := ["draws", "many"]) fun _ _ _ _ _ _ us hl => match us, hl with | [_, _], _ => rfl
  have F11 := fun_mk (st := s_law_cell) l11 c11 k11
  have b11 := F11.binds (ps := ["script", "draws"]) fun _ _ _ _ _ _ us hl => match us, hl with | [_, _], _ => rfl
  have F12 := fun_mk (st := s_law_same) l12 c12 k12
  have b12 := F12.binds (ps := ["actual", "due"]) fun _ _ _ _ _ _ us hl => match us, hl with | [_, _], _ => rfl
  have F13 := fun_mk (st := s_law_journal) l13 c13 k13
  have b13 := F13.binds (ps := ["draws", "script", "most"]) fun _ _ _ _ _ _ us hl => match us, hl with | [_, _, _], _ => rfl
  have F14 := fun_mk (st := s_law_pairs) l14 c14 k14
  have b14 := F14.binds (ps := ["values"]) fun _ _ _ _ _ _ us hl => match us, hl with | [_], _ => rfl
  have F15 := fun_mk (st := s_law_ended) l15 c15 k15
  have b15 := F15.binds (ps := ["journal"]) fun _ _ _ _ _ _ us hl => match us, hl with | [_], _ => rfl
  have F16 := fun_mk (st := s_law_store) l16 c16 k16
  have b16 := F16.binds (ps := ["draws", "journal"]) fun _ _ _ _ _ _ us hl => match us, hl with | [_, _], _ => rfl
  have F17 := fun_mk (st := s_law_undone) l17 c17 k17
  have b17 := F17.binds (ps := ["store", "journal"]) fun _ _ _ _ _ _ us hl => match us, hl with | [_, _], _ => rfl
  have F18 := fun_mk (st := s_law_made) l18 c18 k18
  have b18 := F18.binds (ps := ["store", "journal", "askers"]) fun _ _ _ _ _ _ us hl => match us, hl with | [_, _, _], _ => rfl
  have F19 := fun_mk (st := s_law_strict) l19 c19 k19
  have b19 := F19.binds (ps := ["journal"]) fun _ _ _ _ _ _ us hl => match us, hl with | [_], _ => rfl
  have F20 := fun_mk (st := s_law_is_told) l20 c20 k20
  have b20 := F20.binds (ps := ["draws", "journal"]) fun _ _ _ _ _ _ us hl => match us, hl with | [_, _], _ => rfl
  have F21 := fun_mk (st := s_law) l21 c21 k21
  have b21 := F21.binds (ps := ["script"]) fun _ _ _ _ _ _ us hl => match us, hl with | [_], _ => rfl
  let fas : List Addr := [f0, f1, f2, f3, f4, f5, f6, f7, f8, f9, f10, f11, f12, f13, f14, f15, f16, f17, f18, f19, f20, fa]
  let fds : List FuncData := [PySem.W.fnOf "as_pairs" "as_pairs" (defArgs s_as_pairs) (defBody s_as_pairs) (defScope s_as_pairs) .none kV0 dc0 pm0 an0 cd0 ct0,
    PySem.W.fnOf "ended_in" "ended_in" (defArgs s_ended_in) (defBody s_ended_in) (defScope s_ended_in) .none kV1 dc1 pm1 an1 cd1 ct1,
    PySem.W.fnOf "redone_store" "redone_store" (defArgs s_redone_store) (defBody s_redone_store) (defScope s_redone_store) .none kV2 dc2 pm2 an2 cd2 ct2,
    PySem.W.fnOf "values_ahead" "values_ahead" (defArgs s_values_ahead) (defBody s_values_ahead) (defScope s_values_ahead) .none kV3 dc3 pm3 an3 cd3 ct3,
    PySem.W.fnOf "undone_store" "undone_store" (defArgs s_undone_store) (defBody s_undone_store) (defScope s_undone_store) .none kV4 dc4 pm4 an4 cd4 ct4,
    PySem.W.fnOf "recovered_store" "recovered_store" (defArgs s_recovered_store) (defBody s_recovered_store) (defScope s_recovered_store) .none kV5 dc5 pm5 an5 cd5 ct5,
    PySem.W.fnOf "is_strict" "is_strict" (defArgs s_is_strict) (defBody s_is_strict) (defScope s_is_strict) .none kV6 dc6 pm6 an6 cd6 ct6,
    PySem.W.fnOf "can_be_left" "can_be_left" (defArgs s_can_be_left) (defBody s_can_be_left) (defScope s_can_be_left) .none kV7 dc7 pm7 an7 cd7 ct7,
    PySem.W.fnOf "short_journal" "short_journal" (defArgs s_short_journal) (defBody s_short_journal) (defScope s_short_journal) .none kV8 dc8 pm8 an8 cd8 ct8,
    PySem.W.fnOf "_law_draws" "_law_draws" (defArgs s_law_draws) (defBody s_law_draws) (defScope s_law_draws) .none kV9 dc9 pm9 an9 cd9 ct9,
    PySem.W.fnOf "_law_take" "_law_take" (defArgs s_law_take) (defBody s_law_take) (defScope s_law_take) .none kV10 dc10 pm10 an10 cd10 ct10,
    PySem.W.fnOf "_law_cell" "_law_cell" (defArgs s_law_cell) (defBody s_law_cell) (defScope s_law_cell) .none kV11 dc11 pm11 an11 cd11 ct11,
    PySem.W.fnOf "_law_same" "_law_same" (defArgs s_law_same) (defBody s_law_same) (defScope s_law_same) .none kV12 dc12 pm12 an12 cd12 ct12,
    PySem.W.fnOf "_law_journal" "_law_journal" (defArgs s_law_journal) (defBody s_law_journal) (defScope s_law_journal) .none kV13 dc13 pm13 an13 cd13 ct13,
    PySem.W.fnOf "_law_pairs" "_law_pairs" (defArgs s_law_pairs) (defBody s_law_pairs) (defScope s_law_pairs) .none kV14 dc14 pm14 an14 cd14 ct14,
    PySem.W.fnOf "_law_ended" "_law_ended" (defArgs s_law_ended) (defBody s_law_ended) (defScope s_law_ended) .none kV15 dc15 pm15 an15 cd15 ct15,
    PySem.W.fnOf "_law_store" "_law_store" (defArgs s_law_store) (defBody s_law_store) (defScope s_law_store) .none kV16 dc16 pm16 an16 cd16 ct16,
    PySem.W.fnOf "_law_undone" "_law_undone" (defArgs s_law_undone) (defBody s_law_undone) (defScope s_law_undone) .none kV17 dc17 pm17 an17 cd17 ct17,
    PySem.W.fnOf "_law_made" "_law_made" (defArgs s_law_made) (defBody s_law_made) (defScope s_law_made) .none kV18 dc18 pm18 an18 cd18 ct18,
    PySem.W.fnOf "_law_strict" "_law_strict" (defArgs s_law_strict) (defBody s_law_strict) (defScope s_law_strict) .none kV19 dc19 pm19 an19 cd19 ct19,
    PySem.W.fnOf "_law_is_told" "_law_is_told" (defArgs s_law_is_told) (defBody s_law_is_told) (defScope s_law_is_told) .none kV20 dc20 pm20 an20 cd20 ct20,
    PySem.W.fnOf "law" "law" (defArgs s_law) (defBody s_law) (defScope s_law) .none kV21 dc21 pm21 an21 cd21 ct21]
  have T : Tb K mg (fun i => fas.getD i f0) (fun i => fds.getD i (PySem.W.fnOf "as_pairs" "as_pairs" (defArgs s_as_pairs) (defBody s_as_pairs) (defScope s_as_pairs) .none kV0 dc0 pm0 an0 cd0 ct0)) := ⟨F0, b0, PySem.W.mg_of X G a0, F1, b1, PySem.W.mg_of X G a1, F2, b2, PySem.W.mg_of X G a2, F3, b3, PySem.W.mg_of X G a3, F4, b4, PySem.W.mg_of X G a4, F5, b5, PySem.W.mg_of X G a5, F6, b6, PySem.W.mg_of X G a6, F7, b7, PySem.W.mg_of X G a7, F8, b8, PySem.W.mg_of X G a8, F9, b9, PySem.W.mg_of X G a9, F10, b10, PySem.W.mg_of X G a10, F11, b11, PySem.W.mg_of X G a11, F12, b12, PySem.W.mg_of X G a12, F13, b13, PySem.W.mg_of X G a13, F14, b14, PySem.W.mg_of X G a14, F15, b15, PySem.W.mg_of X G a15, F16, b16, PySem.W.mg_of X G a16, F17, b17, PySem.W.mg_of X G a17, F18, b18, PySem.W.mg_of X G a18, F19, b19, PySem.W.mg_of X G a19, F20, b20, PySem.W.mg_of X G a20, F21, b21, PySem.W.mg_of X G a21, PySem.W.mg_none_of X G z_abs, PySem.W.mg_none_of X G z_all, PySem.W.mg_none_of X G z_any, PySem.W.mg_none_of X G z_bool, PySem.W.mg_none_of X G z_int, PySem.W.mg_none_of X G z_isinstance, PySem.W.mg_none_of X G z_len, PySem.W.mg_none_of X G z_list, PySem.W.mg_none_of X G z_range, PySem.W.mg_none_of X G z_set, PySem.W.mg_none_of X G z_sorted, PySem.W.mg_none_of X G z_str, PySem.W.mg_none_of X G z_tuple⟩
  exact ⟨PySem.W.fnOf "law" "law" (defArgs s_law) (defBody s_law) (defScope s_law) .none kV21 dc21 pm21 an21 cd21 ct21, fun s v => .of_eq rfl, fun base _ _ => ok_end T nl⟩
end K40
open PySem PySem.W PyProof.Rows
set_option maxHeartbeats 0 in
theorem PySem.Challenge.cw_spanslocked_k40_journals_line_by_line_holds : PySem.Challenge.rw_spanslocked_k40_journals_line_by_line.Holds := by
  w_on; o_law; k_head; (case hw => w_witness2)
  k_fill
  refine L2.walk_ofB (l := PySem.Challenge.rw_spanslocked_k40_journals_line_by_line) (n := 63) (k := 8) (x := "script") (CX := fun _ => L2.CX0) (sp := fun w => K40.spE _) rfl (by decide) rfl ⟨rfl, by decide, by decide⟩ (fun w h Y => PySem.W.kIn_of Y) ?F (fun _ _ a ns hl hb _ hS => ⟨a, ns, rfl, hS, hl, hb, fun _ => rfl⟩) (fun _ _ _ _ _ h => h)
  case F =>
    intro w mg fa h KX G hmg
    refine' K40.all_mk KX G hmg ?nl ?a0 ?l0 ?c0 ?k0 ?a1 ?l1 ?c1 ?k1 ?a2 ?l2 ?c2 ?k2 ?a3 ?l3 ?c3 ?k3 ?a4 ?l4 ?c4 ?k4 ?a5 ?l5 ?c5 ?k5 ?a6 ?l6 ?c6 ?k6 ?a7 ?l7 ?c7 ?k7 ?a8 ?l8 ?c8 ?k8 ?a9 ?l9 ?c9 ?k9 ?a10 ?l10 ?c10 ?k10 ?a11 ?l11 ?c11 ?k11 ?a12 ?l12 ?c12 ?k12 ?a13 ?l13 ?c13 ?k13 ?a14 ?l14 ?c14 ?k14 ?a15 ?l15 ?c15 ?k15 ?a16 ?l16 ?c16 ?k16 ?a17 ?l17 ?c17 ?k17 ?a18 ?l18 ?c18 ?k18 ?a19 ?l19 ?c19 ?k19 ?a20 ?l20 ?c20 ?k20 ?a21 ?l21 ?c21 ?k21 ?z_abs ?z_all ?z_any ?z_bool ?z_int ?z_isinstance ?z_len ?z_list ?z_range ?z_set ?z_sorted ?z_str ?z_tuple
    (case nl => kernel_rfl)
    (case a0 => k_is); (case l0 => k_is); (case c0 => k_is); (case k0 => k_is); (case a1 => k_is); (case l1 => k_is); (case c1 => k_is); (case k1 => k_is); (case a2 => k_is); (case l2 => k_is); (case c2 => k_is); (case k2 => k_is); (case a3 => k_is); (case l3 => k_is); (case c3 => k_is); (case k3 => k_is); (case a4 => k_is); (case l4 => k_is); (case c4 => k_is); (case k4 => k_is); (case a5 => k_is); (case l5 => k_is); (case c5 => k_is); (case k5 => k_is); (case a6 => k_is); (case l6 => k_is); (case c6 => k_is); (case k6 => k_is); (case a7 => k_is); (case l7 => k_is); (case c7 => k_is); (case k7 => k_is); (case a8 => k_is); (case l8 => k_is); (case c8 => k_is); (case k8 => k_is); (case a9 => k_is); (case l9 => k_is); (case c9 => k_is); (case k9 => k_is); (case a10 => k_is); (case l10 => k_is); (case c10 => k_is); (case k10 => k_is); (case a11 => k_is); (case l11 => k_is); (case c11 => k_is); (case k11 => k_is); (case a12 => k_is); (case l12 => k_is); (case c12 => k_is); (case k12 => k_is); (case a13 => k_is); (case l13 => k_is); (case c13 => k_is); (case k13 => k_is); (case a14 => k_is); (case l14 => k_is); (case c14 => k_is); (case k14 => k_is); (case a15 => k_is); (case l15 => k_is); (case c15 => k_is); (case k15 => k_is); (case a16 => k_is); (case l16 => k_is); (case c16 => k_is); (case k16 => k_is); (case a17 => k_is); (case l17 => k_is); (case c17 => k_is); (case k17 => k_is); (case a18 => k_is); (case l18 => k_is); (case c18 => k_is); (case k18 => k_is); (case a19 => k_is); (case l19 => k_is); (case c19 => k_is); (case k19 => k_is); (case a20 => k_is); (case l20 => k_is); (case c20 => k_is); (case k20 => k_is); (case a21 => k_is); (case l21 => k_is); (case c21 => k_is); (case k21 => k_is); (case z_abs => k_is); (case z_all => k_is); (case z_any => k_is); (case z_bool => k_is); (case z_int => k_is); (case z_isinstance => k_is); (case z_len => k_is); (case z_list => k_is); (case z_range => k_is); (case z_set => k_is); (case z_sorted => k_is); (case z_str => k_is); (case z_tuple => k_is)
