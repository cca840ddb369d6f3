import PyProof.Rows.All
import Wide.All
import OpenK.AllK
import Wide.FinOn
import HandS.ForMost
import HandS.Exc
import HandS.TryOnly
import HandS.TryMany
import HandS.ExcOwn
import HandS.ExcField
import HandS.IsInst
import HandS.Strs
import HandS.Replace
import HandS.Text
import KE.DataCmp
import HandS.WordsExc
import KE.KExcSuper
import KE.OsGo
import KE.RegKSuper
import KE.KExcLine
import PySem.Challenge.RW_kinwork_k01_names_of_numbers
set_option Elab.async false
set_option linter.all false
set_option maxRecDepth 100000
set_option maxHeartbeats 8000000
/-! KL, part a: deep values, what stands for them in a heap, abstract frames, what an evaluation leaves. -/
namespace KL
open PySem L2

/-- a value as data: no addresses but those of classes -/
inductive D where
  | non | bl (b : Bool) | int (i : Int) | str (x : Str)
  | lst (xs : List D) | tup (xs : List D)
  | lsx (xs : List D)
  | dk (kvs : List (Key × D)) | dt (kvs : List (List Key × D))
  | obj (C : Addr) (fs : List (Str × D))
  | fn (a : Addr)
deriving Inhabited

/-- all that is tracked stays -/
def Ex (H H' : Hp) : Prop := ∀ a o, H a = some o → H' a = some o
theorem Ex.refl (H : Hp) : Ex H H := fun _ _ h => h
theorem Ex.trans {H H1 H2 : Hp} (a : Ex H H1) (b : Ex H1 H2) : Ex H H2 := fun x o h => b x o (a x o h)
theorem Ex.new {H : Hp} {p : Addr} {o : HO} (h : H p = none) : Ex H (upd H p o) := fun a u e => by
  rw [upd_ne (ne_of_none e h)]; exact e
theorem Ex.rd {H H' : Hp} {a : Addr} {u : HO} (e : Ex H H') (h : Rd H a u) : Rd H' a u := by
  rcases h with h | ⟨o, h⟩
  · exact .inl (e a _ h)
  · exact .inr ⟨o, e a _ h⟩
theorem Ex.sl {K : PySem.W.Frag} {H H' : Hp} {a : Addr} {xs : List V} (e : Ex H H') (h : SqL K H a xs) : SqL K H' a xs := by
  rcases h with h | h
  · exact .inl (e.rd h)
  · exact .inr h
theorem Ex.st {K : PySem.W.Frag} {H H' : Hp} {a : Addr} {xs : List V} (e : Ex H H') (h : SqT K H a xs) : SqT K H' a xs := by
  rcases h with h | h
  · exact .inl (e.rd h)
  · exact .inr h
theorem Ex.none {H H' : Hp} {a : Addr} (e : Ex H H') (h : H' a = Option.none) : H a = Option.none := by
  cases q : H a with
  | none => rfl
  | some o => rw [e a o q] at h; cases h

/-- the value v, in the heap F, is the data d -/
inductive Rep (K : PySem.W.Frag) (F : Hp) : V → D → Prop
  | non : Rep K F .non .non
  | bl (b : Bool) : Rep K F (.bl b) (.bl b)
  | int (i : Int) : Rep K F (.int i) (.int i)
  | str (x : Str) : Rep K F (.str x) (.str x)
  | lst {a : Addr} {vs : List V} {ds : List D} : F a = some (.lst vs) → vs.length = ds.length → (∀ (i : Nat) v d, vs[i]? = some v → ds[i]? = some d → Rep K F v d) → Rep K F (.ref a) (.lst ds)
  | lsx {a : Addr} {vs : List V} {ds : List D} : SqL K F a vs → vs.length = ds.length → (∀ (i : Nat) v d, vs[i]? = some v → ds[i]? = some d → Rep K F v d) → Rep K F (.ref a) (.lsx ds)
  | tup {a : Addr} {vs : List V} {ds : List D} : SqT K F a vs → vs.length = ds.length → (∀ (i : Nat) v d, vs[i]? = some v → ds[i]? = some d → Rep K F v d) → Rep K F (.ref a) (.tup ds)
  | dk {a : Addr} {kvs : List (Key × V)} {kds : List (Key × D)} : Rd F a (.dK kvs) → kvs.length = kds.length →
      (∀ (i : Nat) p q, kvs[i]? = some p → kds[i]? = some q → p.1 = q.1) → (∀ (i : Nat) p q, kvs[i]? = some p → kds[i]? = some q → Rep K F p.2 q.2) → Rep K F (.ref a) (.dk kds)
  | obj {a C dx : Addr} {fvs : List (Str × V)} {fds : List (Str × D)} : F a = some (.ins C dx fvs) → fvs.length = fds.length →
      (∀ (i : Nat) p q, fvs[i]? = some p → fds[i]? = some q → p.1 = q.1) → (∀ (i : Nat) p q, fvs[i]? = some p → fds[i]? = some q → Rep K F p.2 q.2) → Rep K F (.ref a) (.obj C fds)
  | fn (a : Addr) : Rep K F (.ref a) (.fn a)
def Reps (K : PySem.W.Frag) (F : Hp) (vs : List V) (ds : List D) : Prop := vs.length = ds.length ∧ ∀ (i : Nat) v d, vs[i]? = some v → ds[i]? = some d → Rep K F v d
section
variable {K : PySem.W.Frag} {F F' H : Hp} {v : V} {d : D} {vs ws : List V} {ds es : List D}
theorem Rep.mono (e : Ex F F') (h : Rep K F v d) : Rep K F' v d := by
  induction h with
  | non => exact .non
  | bl b => exact .bl b
  | int i => exact .int i
  | str x => exact .str x
  | lst h1 h2 h3 ih => exact .lst (e _ _ h1) h2 ih
  | lsx h1 h2 h3 ih => exact .lsx (e.sl h1) h2 ih
  | tup h1 h2 h3 ih => exact .tup (e.st h1) h2 ih
  | dk h1 h2 h3 h4 ih => exact .dk (e.rd h1) h2 h3 ih
  | obj h1 h2 h3 h4 ih => exact .obj (e _ _ h1) h2 h3 ih
  | fn a => exact .fn a
theorem Reps.mono (e : Ex F F') (h : Reps K F vs ds) : Reps K F' vs ds := ⟨h.1, fun i v d h1 h2 => (h.2 i v d h1 h2).mono e⟩
theorem Reps.nil : Reps K F [] [] := ⟨rfl, fun i v d h => by simp at h⟩
theorem Reps.cons (h : Rep K F v d) (hs : Reps K F vs ds) : Reps K F (v :: vs) (d :: ds) := by
  refine ⟨by simp [hs.1], fun i w e h1 h2 => ?_⟩
  cases i with
  | zero => simp at h1 h2; subst h1; subst h2; exact h
  | succ i => exact hs.2 i w e (by simpa using h1) (by simpa using h2)
theorem Reps.cons_inv {e : D} (h : Reps K F vs (e :: ds)) : ∃ w ws, vs = w :: ws ∧ Rep K F w e ∧ Reps K F ws ds := by
  cases vs with
  | nil => simp [Reps] at h
  | cons w ws =>
    refine ⟨w, ws, rfl, h.2 0 w e rfl rfl, ?_, fun i v d h1 h2 => h.2 (i + 1) v d (by simpa using h1) (by simpa using h2)⟩
    have := h.1; simpa using this
theorem Reps.nil_inv (h : Reps K F vs []) : vs = [] := by
  have := h.1; simpa using this
theorem Reps.append (h1 : Reps K F vs ds) (h2 : Reps K F ws es) : Reps K F (vs ++ ws) (ds ++ es) := by
  refine ⟨by simp [h1.1, h2.1], fun i v d e1 e2 => ?_⟩
  by_cases hi : i < vs.length
  · rw [List.getElem?_append_left hi] at e1
    rw [List.getElem?_append_left (by rw [← h1.1]; exact hi)] at e2
    exact h1.2 i v d e1 e2
  · rw [List.getElem?_append_right (by omega)] at e1
    rw [List.getElem?_append_right (by have := h1.1; omega)] at e2
    have e3 := h1.1
    rw [e3] at e1
    exact h2.2 _ v d e1 e2
theorem Reps.get (h : Reps K F vs ds) {i : Nat} {d : D} (e : ds[i]? = some d) : ∃ v, vs[i]? = some v ∧ Rep K F v d := by
  have hi := (List.getElem?_eq_some_iff.mp e).1
  have hv : i < vs.length := by rw [h.1]; exact hi
  exact ⟨vs[i], List.getElem?_eq_getElem hv, h.2 i _ d (List.getElem?_eq_getElem hv) e⟩
theorem Reps.set (h : Reps K F vs ds) (i : Nat) (hv : Rep K F v d) : Reps K F (vs.set i v) (ds.set i d) := by
  refine ⟨by simp [h.1], fun j w e h1 h2 => ?_⟩
  by_cases hj : i = j
  · subst hj
    by_cases hi : i < vs.length
    · rw [List.getElem?_set_self hi] at h1
      rw [List.getElem?_set_self (by rw [← h.1]; exact hi)] at h2
      cases h1; cases h2; exact hv
    · rw [List.getElem?_eq_none (by simp; omega)] at h1; cases h1
  · rw [List.getElem?_set_ne hj] at h1 h2
    exact h.2 j w e h1 h2
theorem Reps.take (n : Nat) (h : Reps K F vs ds) : Reps K F (vs.take n) (ds.take n) := by
  refine ⟨by simp [h.1], fun i v d h1 h2 => ?_⟩
  rw [List.getElem?_take] at h1 h2
  split at h1
  · rename_i hi; rw [if_pos hi] at h2; exact h.2 i v d h1 h2
  · cases h1
theorem Reps.drop (n : Nat) (h : Reps K F vs ds) : Reps K F (vs.drop n) (ds.drop n) := by
  refine ⟨by simp [h.1], fun i v d h1 h2 => ?_⟩
  rw [List.getElem?_drop] at h1 h2
  exact h.2 _ v d h1 h2
theorem Reps.dropLast (h : Reps K F vs ds) : Reps K F vs.dropLast ds.dropLast := by
  have := h.take (vs.length - 1)
  rw [List.dropLast_eq_take, List.dropLast_eq_take, ← h.1]
  exact this
theorem Reps.reverse (h : Reps K F vs ds) : Reps K F vs.reverse ds.reverse := by
  refine ⟨by simp [h.1], fun i v d h1 h2 => ?_⟩
  have hi : i < vs.length := by
    have := (List.getElem?_eq_some_iff.mp h1).1; simpa using this
  rw [List.getElem?_reverse hi] at h1
  rw [List.getElem?_reverse (by rw [← h.1]; exact hi)] at h2
  have e3 := h.1
  rw [e3] at h1
  exact h.2 _ v d h1 h2
theorem Reps.map {α : Type} {l : List α} {f : α → V} {g : α → D} (h : ∀ x ∈ l, Rep K F (f x) (g x)) : Reps K F (l.map f) (l.map g) := by
  induction l with
  | nil => exact .nil
  | cons a l ih => exact .cons (h a (by simp)) (ih fun x hx => h x (by simp [hx]))
/-- an item read by its value -/
theorem rep_ref_lst (h : Rep K F v (.lst ds)) : ∃ a vs, v = .ref a ∧ F a = some (.lst vs) ∧ Reps K F vs ds := by
  cases h with
  | lst h1 h2 h3 => exact ⟨_, _, rfl, h1, h2, h3⟩
theorem rep_ref_lsx (h : Rep K F v (.lsx ds)) : ∃ a vs, v = .ref a ∧ SqL K F a vs ∧ Reps K F vs ds := by
  cases h with
  | lsx h1 h2 h3 => exact ⟨_, _, rfl, h1, h2, h3⟩
theorem rep_ref_tup (h : Rep K F v (.tup ds)) : ∃ a vs, v = .ref a ∧ SqT K F a vs ∧ Reps K F vs ds := by
  cases h with
  | tup h1 h2 h3 => exact ⟨_, _, rfl, h1, h2, h3⟩
end

/-! ### slots -/
/-- what is known of a slot: nothing; frozen data; an own list (mine, or handed in by the caller); an exception that is handled -/
inductive Exc where
  | mk (cls : Str) (fs : List (Str × D))
deriving Inhabited
inductive Cell where
  | no | va (d : D) | ow (xs : List D) | pa (xs : List D) | xc (x : Exc)
deriving Inhabited
def Cell.list? : Cell → Option (List D)
  | .ow xs => some xs
  | .pa xs => some xs
  | _ => none
abbrev DEnv := List Cell
/-- what the layer leans on: the written part, the classes of exceptions by name, the exception that is handled (its address, class, dict) -/
structure Lx where
  K : PySem.W.Frag
  ct : Str → Option Addr
  xa : Option (Addr × Value × Option Addr)
/-- an exception as data -/
def XOk (L : Lx) (F : Hp) (c : Value) (dd : Option Addr) : Exc → Prop
  | .mk cls fs => ∃ C d fvs, c = .ref C ∧ L.ct cls = some C ∧ dd = some d ∧ F d = some (.xd fvs) ∧ fvs.length = fs.length ∧
      (∀ (i : Nat) p q, fvs[i]? = some p → fs[i]? = some q → p.1 = q.1) ∧ (∀ (i : Nat) p q, fvs[i]? = some p → fs[i]? = some q → Rep L.K F p.2 q.2)
theorem XOk.mono {L : Lx} {F F' : Hp} {c : Value} {dd : Option Addr} {x : Exc} (e : Ex F F') (h : XOk L F c dd x) : XOk L F' c dd x := by
  cases x with
  | mk cls fs =>
    obtain ⟨C, d, fvs, h1, h2, h3, h4, h5, h6, h7⟩ := h
    exact ⟨C, d, fvs, h1, h2, h3, e _ _ h4, h5, h6, fun i p q a b => (h7 i p q a b).mono e⟩
def CellOk (L : Lx) (F H : Hp) (o : Option V) : Cell → Prop
  | .no => True
  | .va d => ∃ v, o = some v ∧ Rep L.K F v d
  | .ow xs => ∃ a vs, o = some (.ref a) ∧ H a = some (.lst vs) ∧ F a = none ∧ Reps L.K F vs xs
  | .pa xs => ∃ a vs, o = some (.ref a) ∧ H a = some (.lst vs) ∧ F a = none ∧ Reps L.K F vs xs
  | .xc x => ∃ a c dd, L.xa = some (a, c, dd) ∧ o = some (.ref a) ∧ XOk L F c dd x
def slot (σ : St) (i : Nat) : Option V := (σ[i]?).join
theorem slot_set {σ : St} {i j : Nat} {v : V} (hi : i < σ.length) : slot (σ.set i (some v)) j = if j = i then some v else slot σ j := by
  unfold slot
  by_cases h : j = i
  · subst h; rw [if_pos rfl, List.getElem?_set_self hi]; rfl
  · rw [if_neg h, List.getElem?_set_ne (Ne.symm h)]
theorem slot_some {σ : St} {i : Nat} {v : V} (h : slot σ i = some v) : σ[i]? = some (some v) := by
  unfold slot at h
  cases q : σ[i]? with
  | none => rw [q] at h; cases h
  | some o => rw [q] at h; cases o with
    | none => cases h
    | some w => cases h; rfl
/-- a is the list of an own slot -/
def Own (σ : St) (Δ : DEnv) (a : Addr) : Prop := ∃ i c xs, Δ[i]? = some c ∧ c.list? = some xs ∧ slot σ i = some (.ref a)
structure EnvOk (L : Lx) (F : Hp) (σ : St) (Δ : DEnv) (H : Hp) : Prop where
  ex : Ex F H
  len : σ.length = Δ.length
  cells : ∀ (i : Nat) c, Δ[i]? = some c → CellOk L F H (slot σ i) c
  apart : ∀ (i j : Nat) c c' xs ys a, i ≠ j → Δ[i]? = some c → Δ[j]? = some c' → c.list? = some xs → c'.list? = some ys → slot σ i = some (.ref a) → slot σ j ≠ some (.ref a)
theorem CellOk.own {L : Lx} {F H : Hp} {o : Option V} {c : Cell} {xs : List D} (h : CellOk L F H o c) (e : c.list? = some xs) : ∃ a vs, o = some (.ref a) ∧ H a = some (.lst vs) ∧ F a = none ∧ Reps L.K F vs xs := by
  cases c with
  | ow ys => cases e; exact h
  | pa ys => cases e; exact h
  | _ => cases e
theorem EnvOk.own {L : Lx} {F H : Hp} {σ : St} {Δ : DEnv} (h : EnvOk L F σ Δ H) {a : Addr} (o : Own σ Δ a) : ∃ vs, H a = some (.lst vs) ∧ F a = none := by
  obtain ⟨i, c, xs, h1, h2, h3⟩ := o
  obtain ⟨b, vs, e1, e2, e3, _⟩ := (h.cells i c h1).own h2
  rw [h3] at e1; cases e1
  exact ⟨vs, e2, e3⟩
/-- what an evaluation may do: frozen things stay, all but the own lists stays, what is frozen or own anew was new or own -/
structure Step (σ : St) (Δ : DEnv) (F H : Hp) (σ' : St) (Δ' : DEnv) (F' H' : Hp) : Prop where
  fr : Ex F F'
  kp : ∀ b o, H b = some o → ¬ Own σ Δ b → H' b = some o
  fn : ∀ b o, F' b = some o → F b = some o ∨ H b = none ∨ Own σ Δ b
  ow : ∀ b, Own σ' Δ' b → Own σ Δ b ∨ H b = none
  pa : ∀ (i : Nat) xs, Δ[i]? = some (Cell.pa xs) → ∃ xs', Δ'[i]? = some (Cell.pa xs') ∧ slot σ' i = slot σ i
  pb : ∀ (i : Nat) xs, Δ'[i]? = some (Cell.pa xs) → ∃ xs', Δ[i]? = some (Cell.pa xs')
  th : ∀ b o, H b = some o → ∃ o', H' b = some o'
section
variable {σ σ1 σ2 : St} {Δ Δ1 Δ2 : DEnv} {F F1 F2 H H1 H2 : Hp}
theorem Step.refl : Step σ Δ F H σ Δ F H := ⟨Ex.refl F, fun _ _ h _ => h, fun _ _ h => .inl h, fun _ h => .inl h, fun _ xs h => ⟨xs, h, rfl⟩, fun _ xs h => ⟨xs, h⟩, fun _ o h => ⟨o, h⟩⟩
theorem Step.trans (a : Step σ Δ F H σ1 Δ1 F1 H1) (b : Step σ1 Δ1 F1 H1 σ2 Δ2 F2 H2) : Step σ Δ F H σ2 Δ2 F2 H2 := by
  have back : ∀ b, H1 b = none → H b = none := fun c h => by
    cases q : H c with
    | none => rfl
    | some o => obtain ⟨o', e⟩ := a.th c o q; rw [h] at e; cases e
  refine ⟨a.fr.trans b.fr, fun c o h n => ?_, fun c o h => ?_, fun c h => ?_, fun i xs h => ?_, fun i xs h => ?_, fun c o h => ?_⟩
  · refine b.kp c o (a.kp c o h n) fun w => ?_
    rcases a.ow c w with z | z
    · exact n z
    · rw [h] at z; cases z
  · rcases b.fn c o h with z | z | z
    · exact a.fn c o z
    · exact .inr (.inl (back c z))
    · rcases a.ow c z with y | y
      · exact .inr (.inr y)
      · exact .inr (.inl y)
  · rcases b.ow c h with z | z
    · exact a.ow c z
    · exact .inr (back c z)
  · obtain ⟨x1, e1, e2⟩ := a.pa i xs h
    obtain ⟨x2, e3, e4⟩ := b.pa i x1 e1
    exact ⟨x2, e3, e4.trans e2⟩
  · obtain ⟨x1, e1⟩ := b.pb i xs h
    exact a.pb i x1 e1
  · obtain ⟨o1, e1⟩ := a.th c o h
    exact b.th c o1 e1
theorem Step.hn (a : Step σ Δ F H σ1 Δ1 F1 H1) {b : Addr} (h : H1 b = none) : H b = none := by
  cases q : H b with
  | none => rfl
  | some o => obtain ⟨o', e⟩ := a.th b o q; rw [h] at e; cases e
end
/-- a change of the heap that leaves all: the frame stays as it is known -/
theorem EnvOk.grow {L : Lx} {F F' H H' : Hp} {σ : St} {Δ : DEnv} (h : EnvOk L F σ Δ H) (e : Ex H H') (f : Ex F F') (fh : Ex F' H') (fn : ∀ b o, F' b = some o → F b = some o ∨ H b = none) : EnvOk L F' σ Δ H' := by
  refine ⟨fh, h.len, fun i c hc => ?_, h.apart⟩
  have q := h.cells i c hc
  have own : ∀ xs, (∃ a vs, slot σ i = some (.ref a) ∧ H a = some (.lst vs) ∧ F a = none ∧ Reps L.K F vs xs) → ∃ a vs, slot σ i = some (.ref a) ∧ H' a = some (.lst vs) ∧ F' a = none ∧ Reps L.K F' vs xs := by
    rintro xs ⟨a, vs, e1, e2, e3, e4⟩
    refine ⟨a, vs, e1, e _ _ e2, ?_, e4.mono f⟩
    cases z : F' a with
    | none => rfl
    | some o =>
      rcases fn a o z with y | y
      · rw [e3] at y; cases y
      · rw [e2] at y; cases y
  cases c with
  | no => trivial
  | va d => obtain ⟨v, e1, e2⟩ := q; exact ⟨v, e1, e2.mono f⟩
  | ow xs => exact own xs q
  | pa xs => exact own xs q
  | xc x => obtain ⟨a, c, dd, e1, e2, e3⟩ := q; exact ⟨a, c, dd, e1, e2, e3.mono f⟩
theorem Step.grow {F F' H H' : Hp} {σ : St} {Δ : DEnv} (e : Ex H H') (f : Ex F F') (fn : ∀ b o, F' b = some o → F b = some o ∨ H b = none) : Step σ Δ F H σ Δ F' H' :=
  ⟨f, fun b o h _ => e b o h, fun b o h => (fn b o h).elim .inl fun z => .inr (.inl z), fun _ h => .inl h, fun _ xs h => ⟨xs, h, rfl⟩, fun _ xs h => ⟨xs, h⟩, fun b o h => ⟨o, e b o h⟩⟩
/-- a new object that is frozen at once -/
theorem grow_new {F H : Hp} {p : Addr} {o : HO} (ex : Ex F H) (hp : H p = none) : Ex H (upd H p o) ∧ Ex F (upd F p o) ∧ Ex (upd F p o) (upd H p o) ∧ ∀ b u, upd F p o b = some u → F b = some u ∨ H b = none := by
  refine ⟨Ex.new hp, Ex.new (ex.none hp), fun b u e => ?_, fun b u e => ?_⟩
  · by_cases hb : b = p
    · subst hb; rw [upd_same] at e ⊢; exact e
    · rw [upd_ne hb] at e ⊢; exact ex b u e
  · by_cases hb : b = p
    · subst hb; exact .inr hp
    · rw [upd_ne hb] at e; exact .inl e

/-! ### results -/
inductive Res (α : Type) where
  | stuck | ok (a : α) (Δ : DEnv) | ex (x : Exc) (Δ : DEnv)
def Res.bind {α β : Type} (r : Res α) (f : α → DEnv → Res β) : Res β := match r with
  | .stuck => .stuck
  | .ok a Δ => f a Δ
  | .ex x Δ => .ex x Δ
/-- what must hold behind an evaluation that is told by r: Q at a value, W at an exception -/
def Want {α : Type} (L : Lx) (W : WX) (σ : St) (Δ : DEnv) (F H : Hp) (r : Res α) (Q : α → DEnv → Hp → Hp → Prop) : Prop := match r with
  | .stuck => False
  | .ok a Δ' => ∀ F' H', EnvOk L F' σ Δ' H' → Step σ Δ F H σ Δ' F' H' → Q a Δ' F' H'
  | .ex x Δ' => ∀ c dd F' H', EnvOk L F' σ Δ' H' → Step σ Δ F H σ Δ' F' H' → XOk L F' c dd x → W c dd σ H'
section
variable {α β : Type} {L : Lx} {W : WX} {σ : St} {Δ : DEnv} {F H : Hp}
theorem Want.bind {r : Res α} {f : α → DEnv → Res β} {Q : β → DEnv → Hp → Hp → Prop} (h : Want L W σ Δ F H (r.bind f) Q) : Want L W σ Δ F H r (fun a Δ1 F1 H1 => Want L W σ Δ1 F1 H1 (f a Δ1) Q) := by
  cases r with
  | stuck => exact h
  | ex x Δ' => exact h
  | ok a Δ1 =>
    intro F1 H1 e1 s1
    have h' : Want L W σ Δ F H (f a Δ1) Q := h
    show Want L W σ Δ1 F1 H1 (f a Δ1) Q
    cases q : f a Δ1 with
    | stuck => rw [q] at h'; exact h'
    | ok b Δ2 => rw [q] at h'; exact fun F2 H2 e2 s2 => h' F2 H2 e2 (s1.trans s2)
    | ex x Δ2 => rw [q] at h'; exact fun c dd F2 H2 e2 s2 xo => h' c dd F2 H2 e2 (s1.trans s2) xo
theorem Want.mono {r : Res α} {Q Q' : α → DEnv → Hp → Hp → Prop} (h : Want L W σ Δ F H r Q) (hq : ∀ a Δ' F' H', EnvOk L F' σ Δ' H' → Q a Δ' F' H' → Q' a Δ' F' H') : Want L W σ Δ F H r Q' := by
  cases r with
  | stuck => exact h
  | ex x Δ' => exact h
  | ok a Δ1 => exact fun F' H' e s => hq a Δ1 F' H' e (h F' H' e s)
theorem Want.here {a : α} {Q : α → DEnv → Hp → Hp → Prop} (env : EnvOk L F σ Δ H) (h : Want L W σ Δ F H (.ok a Δ) Q) : Q a Δ F H := h F H env .refl
end
end KL
/-! KL, part b: expressions. -/
namespace KL
open PySem L2

/-- a readable thing: frozen data, or a list (perhaps an own one) of frozen items -/
def RepR (L : Lx) (F H : Hp) (v : V) (d : D) : Prop := Rep L.K F v d ∨ ∃ a vs xs, v = .ref a ∧ d = .lst xs ∧ H a = some (.lst vs) ∧ Reps L.K F vs xs
theorem RepR.of {L : Lx} {F H : Hp} {v : V} {d : D} (h : Rep L.K F v d) : RepR L F H v d := .inl h
theorem RepR.lst {L : Lx} {F H : Hp} {v : V} {ds : List D} (e : Ex F H) (h : RepR L F H v (.lst ds)) : ∃ a vs, v = .ref a ∧ H a = some (.lst vs) ∧ Reps L.K F vs ds := by
  rcases h with h | ⟨a, vs, xs, e1, e2, e3, e4⟩
  · obtain ⟨a, vs, e1, e2, e3⟩ := rep_ref_lst h
    exact ⟨a, vs, e1, e _ _ e2, e3⟩
  · cases e2; exact ⟨a, vs, e1, e3, e4⟩
theorem RepR.lsx {L : Lx} {F H : Hp} {v : V} {ds : List D} (e : Ex F H) (h : RepR L F H v (.lsx ds)) : ∃ a vs, v = .ref a ∧ SqL L.K H a vs ∧ Reps L.K F vs ds := by
  rcases h with h | ⟨a, vs, xs, e1, e2, e3, e4⟩
  · obtain ⟨a, vs, e1, e2, e3⟩ := rep_ref_lsx h
    exact ⟨a, vs, e1, e.sl e2, e3⟩
  · cases e2
theorem RepR.tup {L : Lx} {F H : Hp} {v : V} {ds : List D} (e : Ex F H) (h : RepR L F H v (.tup ds)) : ∃ a vs, v = .ref a ∧ SqT L.K H a vs ∧ Reps L.K F vs ds := by
  rcases h with h | ⟨a, vs, xs, e1, e2, e3, e4⟩
  · obtain ⟨a, vs, e1, e2, e3⟩ := rep_ref_tup h
    exact ⟨a, vs, e1, e.st e2, e3⟩
  · cases e2
theorem RepR.int {L : Lx} {F H : Hp} {v : V} {i : Int} (h : RepR L F H v (.int i)) : v = .int i := by
  rcases h with h | ⟨a, vs, xs, e1, e2, e3, e4⟩
  · cases h; rfl
  · cases e2
theorem RepR.str {L : Lx} {F H : Hp} {v : V} {x : Str} (h : RepR L F H v (.str x)) : v = .str x := by
  rcases h with h | ⟨a, vs, xs, e1, e2, e3, e4⟩
  · cases h; rfl
  · cases e2
theorem RepR.bl {L : Lx} {F H : Hp} {v : V} {b : Bool} (h : RepR L F H v (.bl b)) : v = .bl b := by
  rcases h with h | ⟨a, vs, xs, e1, e2, e3, e4⟩
  · cases h; rfl
  · cases e2
theorem RepR.non {L : Lx} {F H : Hp} {v : V} (h : RepR L F H v .non) : v = .non := by
  rcases h with h | ⟨a, vs, xs, e1, e2, e3, e4⟩
  · cases h; rfl
  · cases e2

/-! ### soundness of a reading -/
def Snd (L : Lx) (W : WX) (te : TE) (m : DEnv → Res D) : Prop := ∀ (σ : L2.St) (Δ : DEnv) (F H : Hp) (Q : VK), EnvOk L F σ Δ H → Want L W σ Δ F H (m Δ) (fun d _ F' H' => ∀ v, Rep L.K F' v d → Q v H') → te σ H Q
def SndR (L : Lx) (W : WX) (te : TE) (m : DEnv → Res D) : Prop := ∀ (σ : L2.St) (Δ : DEnv) (F H : Hp) (Q : VK), EnvOk L F σ Δ H → Want L W σ Δ F H (m Δ) (fun d _ F' H' => ∀ v, RepR L F' H' v d → Q v H') → te σ H Q
def SndF (L : Lx) (W : WX) (te : TE) (m : DEnv → Res (List D)) : Prop := ∀ (σ : L2.St) (Δ : DEnv) (F H : Hp) (Q : VK), EnvOk L F σ Δ H →
  Want L W σ Δ F H (m Δ) (fun ds Δ' F' H' => ∀ p vs, H p = none → ¬ Own σ Δ' p → F' p = none → H' p = some (.lst vs) → Reps L.K F' vs ds → Q (.ref p) H') → te σ H Q
def SndT (L : Lx) (W : WX) (tt : TT) (m : DEnv → Res Bool) : Prop := ∀ (σ : L2.St) (Δ : DEnv) (F H : Hp) (Q : Bool → Hp → Prop), EnvOk L F σ Δ H → Want L W σ Δ F H (m Δ) (fun b _ F' H' => Q b H') → tt σ H Q
def SndA (L : Lx) (W : WX) (ta : TA) (m : DEnv → Res (List D)) : Prop := ∀ (σ : L2.St) (Δ : DEnv) (F H : Hp) (Q : List V → Hp → Prop), EnvOk L F σ Δ H → Want L W σ Δ F H (m Δ) (fun ds _ F' H' => ∀ vs, Reps L.K F' vs ds → Q vs H') → ta σ H Q

structure DE (X : Cx) (L : Lx) (W : WX) (e : Expr) (m : DEnv → Res D) : Prop where ex : ∃ te, PE X e te ∧ Snd L W te m
structure DR (X : Cx) (L : Lx) (W : WX) (e : Expr) (m : DEnv → Res D) : Prop where ex : ∃ te, PE X e te ∧ SndR L W te m
structure DF (X : Cx) (L : Lx) (W : WX) (e : Expr) (m : DEnv → Res (List D)) : Prop where ex : ∃ te, PE X e te ∧ SndF L W te m
structure DT (X : Cx) (L : Lx) (W : WX) (e : Expr) (m : DEnv → Res Bool) : Prop where ex : ∃ tt, PT X e tt ∧ SndT L W tt m
structure DA (X : Cx) (L : Lx) (W : WX) (es : List Expr) (m : DEnv → Res (List D)) : Prop where ex : ∃ ta, PA X es ta ∧ SndA L W ta m

/-- what the layer wants of the place: the written part, a little room -/
structure Cxt (X : Cx) (L : Lx) (W : WX) : Prop where
  k : L.K = X.K
  hu : X.A.units + 66 < cLine

def Res.map {α β : Type} (f : α → β) (r : Res α) : Res β := r.bind fun a Δ => .ok (f a) Δ
def Res.opt {α : Type} (o : Option α) (Δ : DEnv) : Res α := match o with
  | some a => .ok a Δ
  | none => .stuck
def Res.nox {α : Type} : Res α → Res α
  | .ex _ _ => .stuck
  | r => r

section
variable {X : Cx} {L : Lx} {W : WX} {σ : L2.St} {Δ Δ' : DEnv} {F H : Hp} {ta tb tc te : TE} {ma mb mc m : DEnv → Res D}
theorem Snd.r (h : Snd L W te m) : SndR L W te m := fun σ Δ F H Q e w => h σ Δ F H Q e (w.mono fun d Δ' F' H' _ q v r => q v (.inl r))
theorem DE.r {e : Expr} (h : DE X L W e m) : DR X L W e m := ⟨let ⟨te, h1, h2⟩ := h.ex; ⟨te, h1, h2.r⟩⟩
theorem EnvOk.frz {p : Addr} {vs : List V} (env : EnvOk L F σ Δ H) (ho : ¬ Own σ Δ p) (hf : F p = none) (hh : H p = some (.lst vs)) : EnvOk L (upd F p (.lst vs)) σ Δ H := by
  have exF : Ex F (upd F p (.lst vs)) := Ex.new hf
  have exH : Ex (upd F p (.lst vs)) H := fun b o e => by
    by_cases hb : b = p
    · subst hb; rw [upd_same] at e; rw [← e]; exact hh
    · rw [upd_ne hb] at e; exact env.ex b o e
  refine ⟨exH, env.len, fun i c hc => ?_, env.apart⟩
  have k := env.cells i c hc
  have own : ∀ xs, c.list? = some xs → (∃ a vs, slot σ i = some (.ref a) ∧ H a = some (.lst vs) ∧ F a = none ∧ Reps L.K F vs xs) → ∃ a ws, slot σ i = some (.ref a) ∧ H a = some (.lst ws) ∧ upd F p (.lst vs) a = none ∧ Reps L.K (upd F p (.lst vs)) ws xs := by
    rintro xs hl ⟨a, ws, e1, e2, e3, e4⟩
    refine ⟨a, ws, e1, e2, ?_, e4.mono exF⟩
    have : a ≠ p := fun z => ho ⟨i, c, xs, hc, hl, by rw [← z]; exact e1⟩
    rw [upd_ne this]; exact e3
  cases c with
  | no => trivial
  | va d => obtain ⟨v, e1, e2⟩ := k; exact ⟨v, e1, e2.mono exF⟩
  | ow xs => exact own xs rfl k
  | pa xs => exact own xs rfl k
  | xc x => obtain ⟨a, c, dd, e1, e2, e3⟩ := k; exact ⟨a, c, dd, e1, e2, e3.mono exF⟩
theorem Step.frz {σ' : L2.St} {F' H' : Hp} {p : Addr} {o : HO} (s : Step σ Δ F H σ' Δ' F' H') (hf : F' p = none) (hp : H p = none ∨ Own σ Δ p) : Step σ Δ F H σ' Δ' (upd F' p o) H' :=
  ⟨s.fr.trans (Ex.new hf), s.kp, fun b u e => by
    by_cases hb : b = p
    · subst hb; rcases hp with z | z
      · exact .inr (.inl z)
      · exact .inr (.inr z)
    · rw [upd_ne hb] at e; exact s.fn b u e, s.ow, s.pa, s.pb, s.th⟩
/-- a fresh list is frozen -/
theorem SndF.e {mf : DEnv → Res (List D)} (h : SndF L W te mf) : Snd L W te (fun Δ => (mf Δ).map .lst) := by
  intro σ Δ F H Q env w
  refine h σ Δ F H Q env ?_
  replace w : Want L W σ Δ F H ((mf Δ).map D.lst) _ := w
  cases q : mf Δ with
  | stuck => rw [q] at w; exact w
  | ex x Δ' => rw [q] at w; exact w
  | ok ds Δ' =>
    rw [q] at w
    intro F' H' env' s' p vs hp ho hf hh hr
    refine w _ H' (env'.frz ho hf hh) (s'.frz hf (.inl hp)) _ ?_
    exact .lst upd_same hr.1 fun i v d h1 h2 => (hr.2 i v d h1 h2).mono (Ex.new hf)
theorem DF.e {e : Expr} {mf : DEnv → Res (List D)} (h : DF X L W e mf) : DE X L W e (fun Δ => (mf Δ).map .lst) := ⟨let ⟨te, h1, h2⟩ := h.ex; ⟨te, h1, h2.e⟩⟩

/-! ### constants and names -/
theorem snd_c {v : V} {d : D} (h : ∀ F, Rep L.K F v d) : Snd L W (tC v) (fun Δ => .ok d Δ) := fun σ Δ F H Q env w => w F H env .refl v (h F)
theorem de_int {i : Int} {j pos} : DE X L W (.Constant (.int i) j pos) (fun Δ => .ok (.int i) Δ) := ⟨_, pe_int, snd_c fun _ => .int i⟩
theorem de_bl {b : Bool} {j pos} : DE X L W (.Constant (.bool b) j pos) (fun Δ => .ok (.bl b) Δ) := ⟨_, pe_bl, snd_c fun _ => .bl b⟩
theorem de_non {j pos} : DE X L W (.Constant .none j pos) (fun Δ => .ok .non Δ) := ⟨_, pe_non, snd_c fun _ => .non⟩
theorem de_str {x : Str} {j pos} : DE X L W (.Constant (.str x) j pos) (fun Δ => .ok (.str x) Δ) := ⟨_, pe_str, snd_c fun _ => .str x⟩
/-- a constant of the module -/
theorem de_glob {x : Str} {v : V} {u : Value} {d : D} {pos : Pos} (hg : Gl X x) (hm : X.mg x = some u) (r : RelV v u) (h : ∀ F, Rep L.K F v d) (hd : (x == ("__debug__" : Str)) = false) : DE X L W (.Name x pos) (fun Δ => .ok d Δ) :=
  ⟨_, pe_glob hg hm r hd, snd_c h⟩

def rdC : Cell → Option D
  | .va d => some d
  | .ow xs => some (.lst xs)
  | .pa xs => some (.lst xs)
  | _ => none
/-- what a slot may be read as -/
def rdR (Δ : DEnv) (i : Nat) : Option D := (Δ[i]?).bind rdC
theorem EnvOk.rd {i : Nat} {d : D} (env : EnvOk L F σ Δ H) (h : rdR Δ i = some d) : ∃ v, slot σ i = some v ∧ RepR L F H v d := by
  unfold rdR at h
  cases q : Δ[i]? with
  | none => rw [q] at h; cases h
  | some c =>
    rw [q] at h
    have k := env.cells i c q
    cases c with
    | no => cases h
    | xc x => cases h
    | va e => cases h; obtain ⟨v, e1, e2⟩ := k; exact ⟨v, e1, .inl e2⟩
    | ow xs => cases h; obtain ⟨a, vs, e1, e2, e3, e4⟩ := k; exact ⟨_, e1, .inr ⟨a, vs, xs, rfl, rfl, e2, e4⟩⟩
    | pa xs => cases h; obtain ⟨a, vs, e1, e2, e3, e4⟩ := k; exact ⟨_, e1, .inr ⟨a, vs, xs, rfl, rfl, e2, e4⟩⟩
def varR (i : Nat) : DEnv → Res D := fun Δ => .opt (rdR Δ i) Δ
theorem sndR_var {i : Nat} : SndR L W (tVar i) (varR i) := by
  intro σ Δ F H Q env w
  unfold varR at w
  cases q : rdR Δ i with
  | none => rw [q] at w; exact w.elim
  | some d =>
    rw [q] at w
    obtain ⟨v, e1, e2⟩ := env.rd q
    exact ⟨v, slot_some e1, w F H env .refl v e2⟩
/-- a name as a value: an own list is frozen -/
def varM (i : Nat) : DEnv → Res D := fun Δ => match Δ[i]? with
  | some (.va d) => .ok d Δ
  | some (.ow xs) => .ok (.lst xs) (Δ.set i (.va (.lst xs)))
  | _ => .stuck
theorem list_set_get {α : Type} {l : List α} {i j : Nat} {x y : α} (h : (l.set i x)[j]? = some y) : (j = i ∧ y = x) ∨ (j ≠ i ∧ l[j]? = some y) := by
  by_cases hj : i = j
  · subst hj
    by_cases hi : i < l.length
    · rw [List.getElem?_set_self hi] at h; cases h; exact .inl ⟨rfl, rfl⟩
    · rw [List.getElem?_eq_none (by simpa using hi)] at h; cases h
  · rw [List.getElem?_set_ne hj] at h; exact .inr ⟨Ne.symm hj, h⟩
theorem EnvOk.freeze {i : Nat} {xs : List D} (env : EnvOk L F σ Δ H) (h : Δ[i]? = some (.ow xs)) : ∃ a vs, slot σ i = some (.ref a) ∧ H a = some (.lst vs) ∧ F a = none ∧ Reps L.K F vs xs ∧
    EnvOk L (upd F a (.lst vs)) σ (Δ.set i (.va (.lst xs))) H ∧ Step σ Δ F H σ (Δ.set i (.va (.lst xs))) (upd F a (.lst vs)) H := by
  obtain ⟨a, vs, e1, e2, e3, e4⟩ := env.cells i _ h
  have exF : Ex F (upd F a (.lst vs)) := Ex.new e3
  have own : Own σ Δ a := ⟨i, _, xs, h, rfl, e1⟩
  refine ⟨a, vs, e1, e2, e3, e4, ⟨fun b o e => ?_, by rw [List.length_set]; exact env.len, fun j c hc => ?_, fun j k c c' ys zs b hjk hj hk hl hl' e => ?_⟩, ?_⟩
  · by_cases hb : b = a
    · subst hb; rw [upd_same] at e; rw [← e]; exact e2
    · rw [upd_ne hb] at e; exact env.ex b o e
  · rcases list_set_get hc with ⟨rfl, rfl⟩ | ⟨hj, hc⟩
    · exact ⟨_, e1, .lst upd_same e4.1 fun i v d h1 h2 => (e4.2 i v d h1 h2).mono exF⟩
    · have k := env.cells j c hc
      have ownj : ∀ ys, c.list? = some ys → (∃ b ws, slot σ j = some (.ref b) ∧ H b = some (.lst ws) ∧ F b = none ∧ Reps L.K F ws ys) → ∃ b ws, slot σ j = some (.ref b) ∧ H b = some (.lst ws) ∧ upd F a (.lst vs) b = none ∧ Reps L.K (upd F a (.lst vs)) ws ys := by
        rintro ys hl ⟨b, ws, g1, g2, g3, g4⟩
        refine ⟨b, ws, g1, g2, ?_, g4.mono exF⟩
        have : b ≠ a := fun z => env.apart i j _ c xs ys a (Ne.symm hj) h hc rfl hl e1 (by rw [← z]; exact g1)
        rw [upd_ne this]; exact g3
      cases c with
      | no => trivial
      | va d => obtain ⟨v, g1, g2⟩ := k; exact ⟨v, g1, g2.mono exF⟩
      | ow ys => exact ownj ys rfl k
      | pa ys => exact ownj ys rfl k
      | xc x => obtain ⟨b, c, dd, g1, g2, g3⟩ := k; exact ⟨b, c, dd, g1, g2, g3.mono exF⟩
  · rcases list_set_get hj with ⟨rfl, rfl⟩ | ⟨nj, hj⟩
    · cases hl
    · rcases list_set_get hk with ⟨rfl, rfl⟩ | ⟨nk, hk⟩
      · cases hl'
      · exact env.apart j k c c' ys zs b hjk hj hk hl hl' e
  · refine ⟨exF, fun b o e _ => e, fun b o e => ?_, fun b ⟨j, c, ys, hc, hl, e⟩ => .inl ?_, fun j ys hj => ?_, fun j ys hj => ?_, fun b o e => ⟨o, e⟩⟩
    · by_cases hb : b = a
      · subst hb; exact .inr (.inr own)
      · rw [upd_ne hb] at e; exact .inl e
    · rcases list_set_get hc with ⟨rfl, rfl⟩ | ⟨nj, hc⟩
      · cases hl
      · exact ⟨j, c, ys, hc, hl, e⟩
    · have nj : i ≠ j := fun z => by subst z; rw [h] at hj; cases hj
      exact ⟨ys, by rw [List.getElem?_set_ne nj]; exact hj, rfl⟩
    · rcases list_set_get hj with ⟨rfl, e⟩ | ⟨nj, hj⟩
      · cases e
      · exact ⟨ys, hj⟩
theorem snd_var {i : Nat} : Snd L W (tVar i) (varM i) := by
  intro σ Δ F H Q env w
  unfold varM at w
  split at w
  · rename_i d q
    obtain ⟨v, e1, e2⟩ := env.cells i _ q
    exact ⟨v, slot_some e1, w F H env .refl v e2⟩
  · rename_i xs q
    obtain ⟨a, vs, e1, e2, e3, e4, env2, st⟩ := env.freeze q
    exact ⟨_, slot_some e1, w _ H env2 st _ (.lst upd_same e4.1 fun i v d h1 h2 => (e4.2 i v d h1 h2).mono (Ex.new e3))⟩
  · exact w.elim
theorem de_var {i : Nat} {x : Str} {pos : Pos} (hN : X.N[i]? = some x) (hv : Vis X.env.scope x) (hd : (x == ("__debug__" : Str)) = false) (hcd : (x == ("__classdict__" : Str)) = false) : DE X L W (.Name x pos) (varM i) := ⟨_, pe_var hN hv hd hcd, snd_var⟩
theorem dr_var {i : Nat} {x : Str} {pos : Pos} (hN : X.N[i]? = some x) (hv : Vis X.env.scope x) (hd : (x == ("__debug__" : Str)) = false) (hcd : (x == ("__classdict__" : Str)) = false) : DR X L W (.Name x pos) (varR i) := ⟨_, pe_var hN hv hd hcd, sndR_var⟩

/-! ### operations on two values -/
/-- what a heap may gain -/
structure Gro (F H F' H' : Hp) : Prop where
  h : Ex H H'
  f : Ex F F'
  fh : Ex F' H'
  n : ∀ b o, F' b = some o → F b = some o ∨ H b = none
theorem Gro.refl (e : Ex F H) : Gro F H F H := ⟨Ex.refl H, Ex.refl F, e, fun _ _ h => .inl h⟩
theorem Gro.new {p : Addr} {o : HO} (e : Ex F H) (hp : H p = none) : Gro F H (upd F p o) (upd H p o) :=
  let ⟨a, b, c, d⟩ := grow_new (o := o) e hp
  ⟨a, b, c, d⟩
theorem EnvOk.gro {F' H' : Hp} (env : EnvOk L F σ Δ H) (g : Gro F H F' H') : EnvOk L F' σ Δ H' := env.grow g.h g.f g.fh g.n
theorem Step.gro {F' H' : Hp} (g : Gro F H F' H') : Step σ Δ F H σ Δ F' H' := Step.grow g.h g.f g.n
def OpS (L : Lx) (r : R2) (f : D → D → Option D) : Prop := ∀ (F H : Hp) (x y : V) (dx dy d : D) (Q : VK), Ex F H → f dx dy = some d → RepR L F H x dx → RepR L F H y dy →
  (∀ v F' H', Gro F H F' H' → Rep L.K F' v d → Q v H') → r x y H Q
def OpF (L : Lx) (r : R2) (f : D → D → Option (List D)) : Prop := ∀ (F H : Hp) (x y : V) (dx dy : D) (ds : List D) (Q : VK), Ex F H → f dx dy = some ds → RepR L F H x dx → RepR L F H y dy →
  (∀ p vs, H p = none → Reps L.K F vs ds → Q (.ref p) (upd H p (.lst vs))) → r x y H Q
def opM {α : Type} (f : D → D → Option α) (ma mb : DEnv → Res D) : DEnv → Res α := fun Δ => (ma Δ).bind fun x Δ1 => (mb Δ1).bind fun y Δ2 => .opt (f x y) Δ2
/-- the first operand a name: it is read behind the second one -/
def opV {α : Type} (f : D → D → Option α) (i : Nat) (mb : DEnv → Res D) : DEnv → Res α := fun Δ => match rdR Δ i with
  | none => .stuck
  | some _ => (mb Δ).bind fun y Δ1 => .opt ((rdR Δ1 i).bind fun x => f x y) Δ1
theorem Rep.r {F H : Hp} {v : V} {d : D} (h : Rep L.K F v d) : RepR L F H v d := .inl h
theorem snd_op {r : R2} {f : D → D → Option D} (hf : OpS L r f) (ha : Snd L W ta ma) (hb : SndR L W tb mb) : Snd L W (tOp r ta tb) (opM f ma mb) := by
  intro σ Δ F H Q env w
  refine ha σ Δ F H _ env (w.bind.mono fun x Δ1 F1 H1 env1 w1 v rv => ?_)
  refine hb σ Δ1 F1 H1 _ env1 ?_
  -- what the first operand is stays, whatever the second one does
  have w2 := w1.bind
  cases q : mb Δ1 with
  | stuck => rw [q] at w2; exact w2
  | ex x Δ' => rw [q] at w2; exact w2
  | ok y Δ2 =>
    rw [q] at w2
    intro F2 H2 env2 s2 u ru
    have w3 : Want L W σ Δ2 F2 H2 (.opt (f x y) Δ2) _ := w2 F2 H2 env2 s2
    cases g : f x y with
    | none => rw [g] at w3; exact w3.elim
    | some d =>
      rw [g] at w3
      exact hf F2 H2 v u x y d Q env2.ex g (rv.mono s2.fr).r ru fun z F' H' gr rz => w3 F' H' (env2.gro gr) (.gro gr) z rz
theorem snd_opV {r : R2} {f : D → D → Option D} {i : Nat} (hf : OpS L r f) (hb : SndR L W tb mb) : Snd L W (tOp r (tVar i) tb) (opV f i mb) := by
  intro σ Δ F H Q env w
  unfold opV at w
  cases q0 : rdR Δ i with
  | none => rw [q0] at w; exact w.elim
  | some d0 =>
    rw [q0] at w
    obtain ⟨v, e1, _⟩ := env.rd q0
    refine ⟨v, slot_some e1, hb σ Δ F H _ env ?_⟩
    have w2 := w.bind
    cases q : mb Δ with
    | stuck => rw [q] at w2; exact w2
    | ex x Δ' => rw [q] at w2; exact w2
    | ok y Δ2 =>
      rw [q] at w2
      intro F2 H2 env2 s2 u ru
      have w3 : Want L W σ Δ2 F2 H2 (.opt ((rdR Δ2 i).bind fun x => f x y) Δ2) _ := w2 F2 H2 env2 s2
      cases q1 : rdR Δ2 i with
      | none => rw [q1] at w3; exact w3.elim
      | some x =>
        rw [q1] at w3
        obtain ⟨v', e2, rv⟩ := env2.rd q1
        rw [e1] at e2; cases e2
        cases g : f x y with
        | none => rw [Option.bind_some, g] at w3; exact w3.elim
        | some d =>
          rw [Option.bind_some, g] at w3
          exact hf F2 H2 v u x y d Q env2.ex g rv ru fun z F' H' gr rz => w3 F' H' (env2.gro gr) (.gro gr) z rz
/-- a new list beside all that is known -/
theorem fresh_env {p : Addr} {vs : List V} (env : EnvOk L F σ Δ H) (hp : H p = none) : EnvOk L F σ Δ (upd H p (.lst vs)) ∧ Step σ Δ F H σ Δ F (upd H p (.lst vs)) ∧ ¬ Own σ Δ p ∧ F p = none := by
  have e : Ex H (upd H p (.lst vs)) := Ex.new hp
  refine ⟨env.grow e (Ex.refl F) (env.ex.trans e) fun b o h => .inl h, Step.grow e (Ex.refl F) fun b o h => .inl h, fun o => ?_, env.ex.none hp⟩
  obtain ⟨vs, h, _⟩ := env.own o
  rw [hp] at h; cases h
theorem sndF_op {r : R2} {f : D → D → Option (List D)} (hf : OpF L r f) (ha : Snd L W ta ma) (hb : SndR L W tb mb) : SndF L W (tOp r ta tb) (opM f ma mb) := by
  intro σ Δ F H Q env w
  refine ha σ Δ F H _ env ?_
  have w0 := w
  unfold opM at w0
  cases qa : ma Δ with
  | stuck => rw [qa] at w0; exact w0
  | ex x Δ' => rw [qa] at w0; exact w0
  | ok x Δ1 =>
    rw [qa] at w0
    intro F1 H1 env1 s1 v rv
    refine hb σ Δ1 F1 H1 _ env1 ?_
    have w1 : Want L W σ Δ F H ((mb Δ1).bind fun y Δ2 => .opt (f x y) Δ2) _ := w0
    cases qb : mb Δ1 with
    | stuck => rw [qb] at w1; exact w1
    | ex x Δ' => rw [qb] at w1; exact fun c dd F2 H2 env2 s2 xo => w1 c dd F2 H2 env2 (s1.trans s2) xo
    | ok y Δ2 =>
      rw [qb] at w1
      intro F2 H2 env2 s2 u ru
      have w3 : Want L W σ Δ F H (.opt (f x y) Δ2) _ := w1
      cases g : f x y with
      | none => rw [g] at w3; exact w3.elim
      | some ds =>
        rw [g] at w3
        refine hf F2 H2 v u x y ds Q env2.ex g (rv.mono s2.fr).r ru fun p vs hp rp => ?_
        obtain ⟨a1, a2, a3, a4⟩ := fresh_env (vs := vs) env2 hp
        exact w3 F2 _ a1 ((s1.trans s2).trans a2) p vs ((s1.trans s2).hn hp) a3 a4 upd_same rp
theorem sndF_opV {r : R2} {f : D → D → Option (List D)} {i : Nat} (hf : OpF L r f) (hb : SndR L W tb mb) : SndF L W (tOp r (tVar i) tb) (opV f i mb) := by
  intro σ Δ F H Q env w
  unfold opV at w
  cases q0 : rdR Δ i with
  | none => rw [q0] at w; exact w.elim
  | some d0 =>
    rw [q0] at w
    obtain ⟨v, e1, _⟩ := env.rd q0
    refine ⟨v, slot_some e1, hb σ Δ F H _ env ?_⟩
    have w2 : Want L W σ Δ F H ((mb Δ).bind fun y Δ1 => .opt ((rdR Δ1 i).bind fun x => f x y) Δ1) _ := w
    cases q : mb Δ with
    | stuck => rw [q] at w2; exact w2
    | ex x Δ' => rw [q] at w2; exact w2
    | ok y Δ2 =>
      rw [q] at w2
      intro F2 H2 env2 s2 u ru
      have w3 : Want L W σ Δ F H (.opt ((rdR Δ2 i).bind fun x => f x y) Δ2) _ := w2
      cases q1 : rdR Δ2 i with
      | none => rw [q1] at w3; exact w3.elim
      | some x =>
        rw [q1, Option.bind_some] at w3
        obtain ⟨v', e2, rv⟩ := env2.rd q1
        rw [e1] at e2; cases e2
        cases g : f x y with
        | none => rw [g] at w3; exact w3.elim
        | some ds =>
          rw [g] at w3
          refine hf F2 H2 v u x y ds Q env2.ex g rv ru fun p vs hp rp => ?_
          obtain ⟨a1, a2, a3, a4⟩ := fresh_env (vs := vs) env2 hp
          exact w3 F2 _ a1 (s2.trans a2) p vs (s2.hn hp) a3 a4 upd_same rp
end
end KL
/-! KL, part c: the operations. -/
namespace KL
open PySem L2

theorem line_eq : sizeLine = 16777216 := sizeLine_eq
section
variable {X : Cx} {L : Lx} {W : WX}
theorem opr_or {f : Value → Value → Sem Value} {r r' : R2} (h : OpR X f r) (h' : OpR X f r') : OpR X f (fun x y H Q => r x y H Q ∨ r' x y H Q) := by
  intro pins s σ H x y v u Q I rx ry q
  rcases q with q | q
  · exact h pins s σ H x y v u Q I rx ry q
  · exact h' pins s σ H x y v u Q I rx ry q
/-- operations whose answer is no object -/
theorem OpS.flat {r : R2} {f : D → D → Option D} (h : ∀ F H x y dx dy d (Q : VK), Ex F H → f dx dy = some d → RepR L F H x dx → RepR L F H y dy → ∃ v, (∀ F, Rep L.K F v d) ∧ (Q v H → r x y H Q)) : OpS L r f := by
  intro F H x y dx dy d Q ex hf rx ry q
  obtain ⟨v, h1, h2⟩ := h F H x y dx dy d Q ex hf rx ry
  exact h2 (q v F H (.refl ex) (h1 F))

/-! ### numbers -/
def rAddA (K : PySem.W.Frag) : R2 := fun x y H Q => (∃ i j, x = .int i ∧ y = .int j ∧ Q (.int (i + j)) H) ∨ (∃ i j, x = .str i ∧ y = .str j ∧ i.length + j.length ≤ sizeLine ∧ Q (.str (i ++ j)) H) ∨ rCatT K x y H Q
theorem op_addA : OpR X (binaryOp .Add) (rAddA X.K) := opr_or op_add (opr_or op_add_str op_catT)
def addD : D → D → Option D
  | .int i, .int j => some (.int (i + j))
  | .str x, .str y => if x.length + y.length ≤ 16777216 then some (.str (x ++ y)) else none
  | .tup xs, .tup ys => if xs.length + ys.length ≤ 16777216 ∧ xs.isEmpty = false then some (.tup (xs ++ ys)) else none
  | _, _ => none
theorem RepR.ntup {F H : Hp} {v : V} {ds : List D} (h : RepR L F H v (.tup ds)) : Rep L.K F v (.tup ds) := by
  rcases h with h | ⟨a, vs, xs, e1, e2, e3, e4⟩
  · exact h
  · cases e2
theorem ops_add : OpS L (rAddA L.K) addD := by
  intro F H x y dx dy d Q ex hf rx ry q
  unfold addD at hf
  split at hf
  · cases hf; rw [rx.int, ry.int]; exact .inl ⟨_, _, rfl, rfl, q _ F H (.refl ex) (.int _)⟩
  · split at hf
    · rename_i hl; cases hf; rw [rx.str, ry.str]; exact .inr (.inl ⟨_, _, rfl, rfl, by rw [line_eq]; exact hl, q _ F H (.refl ex) (.str _)⟩)
    · cases hf
  · rename_i xs ys
    split at hf
    · rename_i hl; cases hf
      obtain ⟨a, vs, e1, e2, e3⟩ := rx.tup ex
      obtain ⟨b, ws, e4, e5, e6⟩ := ry.tup ex
      refine .inr (.inr ⟨a, b, vs, ws, e1, e4, e2, e5, fun z => ?_, by rw [line_eq, e3.1, e6.1]; exact hl.1, fun z => ?_, fun z p hp => ?_⟩)
      · subst z; have := e3.1; cases xs <;> simp_all
      · subst z
        have : ys = [] := by have := e6.1; cases ys <;> simp_all
        subst this
        rw [List.append_nil] at q
        rw [← e1]
        exact q _ F H (.refl ex) rx.ntup
      · have rr := e3.append e6
        exact q _ _ _ (.new ex hp) (.tup (SqT.of upd_same) rr.1 fun i v d h1 h2 => (rr.2 i v d h1 h2).mono (Ex.new (ex.none hp)))
    · cases hf
  · cases hf
def intD (C : Int → Int → Bool) (g : Int → Int → D) : D → D → Option D
  | .int i, .int j => if C i j then some (g i j) else none
  | _, _ => none
theorem ops_int {C : Int → Int → Prop} {g : Int → Int → Int} {c : Int → Int → Bool} (hc : ∀ i j, c i j = true → C i j) : OpS L (rI C fun i j => .int (g i j)) (intD c fun i j => .int (g i j)) := by
  intro F H x y dx dy d Q ex hf rx ry q
  unfold intD at hf
  split at hf
  · split at hf
    · rename_i h; cases hf; rw [rx.int, ry.int]; exact ⟨_, _, rfl, rfl, hc _ _ h, q _ F H (.refl ex) (.int _)⟩
    · cases hf
  · cases hf
theorem ops_int0 {g : Int → Int → Int} : OpS L (rI0 fun i j => .int (g i j)) (intD (fun _ _ => true) fun i j => .int (g i j)) := by
  intro F H x y dx dy d Q ex hf rx ry q
  unfold intD at hf
  split at hf
  · rw [if_pos rfl] at hf; cases hf; rw [rx.int, ry.int]; exact ⟨_, _, rfl, rfl, q _ F H (.refl ex) (.int _)⟩
  · cases hf
theorem ops_intB {g : Int → Int → Bool} : OpS L (rI0 fun i j => .bl (g i j)) (intD (fun _ _ => true) fun i j => .bl (g i j)) := by
  intro F H x y dx dy d Q ex hf rx ry q
  unfold intD at hf
  split at hf
  · rw [if_pos rfl] at hf; cases hf; rw [rx.int, ry.int]; exact ⟨_, _, rfl, rfl, q _ F H (.refl ex) (.bl _)⟩
  · cases hf
def subD : D → D → Option D := intD (fun _ _ => true) fun i j => .int (i - j)
theorem ops_sub : OpS L (rI0 fun i j => .int (i - j)) subD := ops_int0
def mulC (i j : Int) : Bool := decide ((-18446744073709551616 < i ∧ i < 18446744073709551616) ∨ (-18446744073709551616 < j ∧ j < 18446744073709551616))
def mulD : D → D → Option D := intD mulC fun i j => .int (i * j)
theorem ops_mul : OpS L (rI CMul fun i j => .int (i * j)) mulD := ops_int fun i j h => by
  have h := of_decide_eq_true h
  show (-(2 ^ 64) < i ∧ i < 2 ^ 64) ∨ (-(2 ^ 64) < j ∧ j < 2 ^ 64)
  omega
def divD : D → D → Option D := intD (fun _ j => decide (0 < j ∧ j < 1073741824)) fun i j => .int (i / j)
theorem ops_div : OpS L (rI CDiv fun i j => .int (i / j)) divD := ops_int fun i j h => (of_decide_eq_true h : 0 < j ∧ j < 1073741824)
def modD : D → D → Option D := intD (fun _ j => decide (0 < j)) fun i j => .int (i % j)
theorem ops_mod : OpS L (rI (fun _ j => 0 < j) fun i j => .int (i % j)) modD := ops_int fun i j h => of_decide_eq_true h
def powD : D → D → Option D := intD (fun i j => decide (0 ≤ j ∧ j ≤ 1000000 ∧ i.natAbs < 18446744073709551616)) fun i j => .int (i ^ j.toNat)
theorem ops_pow : OpS L (rI CPow fun i j => .int (i ^ j.toNat)) powD := ops_int fun i j h => by
  have h := of_decide_eq_true h
  show 0 ≤ j ∧ j ≤ 1000000 ∧ i.natAbs < 2 ^ 64
  omega

/-! ### lists joined, repeated -/
def catF : D → D → Option (List D)
  | .lst xs, .lst ys => if xs.length + ys.length ≤ 16777216 then some (xs ++ ys) else none
  | _, _ => none
theorem opf_cat : OpF L rCat catF := by
  intro F H x y dx dy ds Q ex hf rx ry q
  unfold catF at hf
  split at hf
  · split at hf
    · rename_i hl; cases hf
      obtain ⟨a, vs, e1, e2, e3⟩ := rx.lst ex
      obtain ⟨b, ws, e4, e5, e6⟩ := ry.lst ex
      exact ⟨a, b, vs, ws, e1, e4, e2, e5, by rw [line_eq, e3.1, e6.1]; exact hl, fun p hp => q p _ hp (e3.append e6)⟩
    · cases hf
  · cases hf
def repL {α : Type} (xs : List α) : Nat → List α
  | 0 => []
  | n + 1 => xs ++ repL xs n
theorem repL_len {α : Type} (xs : List α) (n : Nat) : (repL xs n).length = xs.length * n := by
  induction n with
  | zero => rfl
  | succ n ih => rw [repL, List.length_append, ih, Nat.mul_succ]; omega
def repF : D → D → Option (List D)
  | .lst xs, .int k => if -4611686018427387904 ≤ k ∧ k < 4611686018427387904 ∧ xs.length * k.toNat ≤ 16777216 then some (List.replicate k.toNat xs).flatten else none
  | _, _ => none

/-! ### comparisons -/
def ltD : D → D → Option D := intD (fun _ _ => true) fun i j => .bl (decide (i < j))
def leD : D → D → Option D := intD (fun _ _ => true) fun i j => .bl (decide (i ≤ j))
def gtD : D → D → Option D := intD (fun _ _ => true) fun i j => .bl (decide (j < i))
def geD : D → D → Option D := intD (fun _ _ => true) fun i j => .bl (decide (j ≤ i))
theorem ops_lt : OpS L (rI0 fun i j => .bl (decide (i < j))) ltD := ops_intB
theorem ops_le : OpS L (rI0 fun i j => .bl (decide (i ≤ j))) leD := ops_intB
theorem ops_gt : OpS L (rI0 fun i j => .bl (decide (j < i))) gtD := ops_intB
theorem ops_ge : OpS L (rI0 fun i j => .bl (decide (j ≤ i))) geD := ops_intB

/-- flat data as values -/
def flatOf : D → Option V
  | .non => some .non
  | .bl b => some (.bl b)
  | .int i => some (.int i)
  | .str x => some (.str x)
  | _ => none
theorem flat_rep {F H : Hp} {v w : V} {d : D} (h : RepR L F H v d) (e : flatOf d = some w) : v = w := by
  cases d with
  | non => cases e; exact h.non
  | bl b => cases e; exact h.bl
  | int i => cases e; exact h.int
  | str x => cases e; exact h.str
  | _ => cases e
theorem flat_flatV {d : D} {w : V} (e : flatOf d = some w) : flatV w = true := by
  cases d <;> first | (cases e; rfl) | cases e
def flatsOf : List D → Option (List V)
  | [] => some []
  | d :: ds => (flatOf d).bind fun v => (flatsOf ds).map (v :: ·)
theorem flats_rep {F : Hp} : ∀ {ds : List D} {vs ws : List V}, Reps L.K F vs ds → flatsOf ds = some ws → vs = ws ∧ ws.all flatV = true
  | [], vs, ws, h, e => by cases e; exact ⟨h.nil_inv, rfl⟩
  | d :: ds, vs, ws, h, e => by
    obtain ⟨w, r, rfl, h1, h2⟩ := h.cons_inv
    unfold flatsOf at e
    cases q : flatOf d with
    | none => rw [q] at e; cases e
    | some v =>
      rw [q, Option.bind_some] at e
      cases q2 : flatsOf ds with
      | none => rw [q2] at e; cases e
      | some us =>
        rw [q2] at e; cases e
        obtain ⟨e1, e2⟩ := flats_rep h2 q2
        have e3 := flat_rep (H := F) (RepR.of h1) q
        subst e1 e3
        exact ⟨rfl, by rw [List.all_cons, flat_flatV q, e2]; rfl⟩
/-! data for == -/
mutual
def toPy : D → Option PyData
  | .non => some .none
  | .bl b => some (.bool b)
  | .int i => some (.int i)
  | .str x => some (.str x)
  | .lst xs => (toPys xs).map .list
  | .tup xs => (toPys xs).map .tuple
  | _ => none
def toPys : List D → Option (List PyData)
  | [] => some []
  | d :: ds => (toPy d).bind fun p => (toPys ds).map (p :: ·)
end
mutual
theorem toPy_dp {F H : Hp} (ex : Ex F H) : ∀ (d : D) (v : V) (p : PyData), Rep L.K F v d → toPy d = some p → Dp L.K H v p
  | .non, v, p, h, e => by cases h; simp [toPy] at e; subst e; exact .non
  | .bl b, v, p, h, e => by cases h; simp [toPy] at e; subst e; exact .bl b
  | .int i, v, p, h, e => by cases h; simp [toPy] at e; subst e; exact .int i
  | .str x, v, p, h, e => by cases h; simp [toPy] at e; subst e; exact .str x
  | .lst ds, v, p, h, e => by
    obtain ⟨a, vs, rfl, h1, h2⟩ := rep_ref_lst h
    simp only [toPy, Option.map_eq_some_iff] at e
    obtain ⟨ps, e1, rfl⟩ := e
    exact .lst (SqL.of (ex _ _ h1)) (toPys_dp ex ds vs ps h2 e1)
  | .tup ds, v, p, h, e => by
    obtain ⟨a, vs, rfl, h1, h2⟩ := rep_ref_tup h
    simp only [toPy, Option.map_eq_some_iff] at e
    obtain ⟨ps, e1, rfl⟩ := e
    exact .tup (ex.st h1) (toPys_dp ex ds vs ps h2 e1)
  | .dk _, _, _, _, e => by simp [toPy] at e
  | .lsx _, _, _, _, e => by simp [toPy] at e
  | .dt _, _, _, _, e => by simp [toPy] at e
  | .obj _ _, _, _, _, e => by simp [toPy] at e
  | .fn _, _, _, _, e => by simp [toPy] at e
theorem toPys_dp {F H : Hp} (ex : Ex F H) : ∀ (ds : List D) (vs : List V) (ps : List PyData), Reps L.K F vs ds → toPys ds = some ps → DpAll L.K H vs ps
  | [], vs, ps, h, e => by simp [toPys] at e; subst e; rw [h.nil_inv]; exact .nil
  | d :: ds, vs, ps, h, e => by
    obtain ⟨w, r, rfl, h1, h2⟩ := h.cons_inv
    simp only [toPys, Option.bind_eq_some_iff, Option.map_eq_some_iff] at e
    obtain ⟨p, e1, qs, e2, rfl⟩ := e
    exact .cons (toPy_dp ex d w p h1 e1) (toPys_dp ex ds r qs h2 e2)
end
theorem toPy_dpR {F H : Hp} (ex : Ex F H) {d : D} {v : V} {p : PyData} (h : RepR L F H v d) (e : toPy d = some p) : Dp L.K H v p := by
  rcases h with h | ⟨a, vs, xs, e1, e2, e3, e4⟩
  · exact toPy_dp ex d v p h e
  · subst e1 e2
    simp only [toPy, Option.map_eq_some_iff] at e
    obtain ⟨ps, e5, rfl⟩ := e
    exact .lst (SqL.of e3) (toPys_dp ex xs vs ps e4 e5)
/-- == : scalars of one kind at once, the rest as data -/
def eqB (x y : D) : Option Bool := match x, y with
  | .int i, .int j => some (decide (i = j))
  | .str i, .str j => some (decide (i = j))
  | .bl i, .bl j => some (decide (i = j))
  | .non, .non => some true
  | .non, .int _ => some false | .non, .str _ => some false | .non, .bl _ => some false
  | .int _, .non => some false | .str _, .non => some false | .bl _, .non => some false
  | .int _, .str _ => some false | .str _, .int _ => some false
  | x, y => match toPy x, toPy y with
    | some p, some q => if SeqAt.shaped p && SeqAt.shaped q then some (PyData.eqv p q) else none
    | _, _ => none
def eqD (x y : D) : Option D := (eqB x y).map .bl
def neD (x y : D) : Option D := (eqB x y).map fun b => .bl (!b)
def rEqA (K : PySem.W.Frag) : R2 := fun x y H Q => rEq x y H Q ∨ rEqD K x y H Q
def rNeA (K : PySem.W.Frag) : R2 := fun x y H Q => rNe x y H Q ∨ rNeD K x y H Q
theorem eqB_ok {F H : Hp} {x y : V} {dx dy : D} {b : Bool} (ex : Ex F H) (hf : eqB dx dy = some b) (rx : RepR L F H x dx) (ry : RepR L F H y dy) :
    (scal x y = true ∧ decide (x = y) = b) ∨ ∃ d e, Dp L.K H x d ∧ Dp L.K H y e ∧ SeqAt.shaped d = true ∧ SeqAt.shaped e = true ∧ PyData.eqv d e = b := by
  unfold eqB at hf
  split at hf
  · cases hf; rw [rx.int, ry.int]; exact .inl ⟨rfl, by simp⟩
  · cases hf; rw [rx.str, ry.str]; exact .inl ⟨rfl, by simp⟩
  · cases hf; rw [rx.bl, ry.bl]; exact .inl ⟨rfl, by simp⟩
  · cases hf; rw [rx.non, ry.non]; exact .inl ⟨rfl, by simp⟩
  · cases hf; rw [rx.non, ry.int]; exact .inl ⟨rfl, by simp⟩
  · cases hf; rw [rx.non, ry.str]; exact .inl ⟨rfl, by simp⟩
  · cases hf; rw [rx.non, ry.bl]; exact .inl ⟨rfl, by simp⟩
  · cases hf; rw [rx.int, ry.non]; exact .inl ⟨rfl, by simp⟩
  · cases hf; rw [rx.str, ry.non]; exact .inl ⟨rfl, by simp⟩
  · cases hf; rw [rx.bl, ry.non]; exact .inl ⟨rfl, by simp⟩
  · cases hf; rw [rx.int, ry.str]; exact .inl ⟨rfl, by simp⟩
  · cases hf; rw [rx.str, ry.int]; exact .inl ⟨rfl, by simp⟩
  · split at hf
    · rename_i p q e1 e2
      split at hf
      · rename_i hs; cases hf
        have hs := Bool.and_eq_true_iff.mp hs
        exact .inr ⟨p, q, toPy_dpR ex rx e1, toPy_dpR ex ry e2, hs.1, hs.2, rfl⟩
      · cases hf
    · cases hf
theorem op_eqA (hu : X.A.units + 64 < cLine) : OpR X (compareOp .Eq) (rEqA X.K) := opr_or op_eq (op_eqD hu)
theorem op_neA (hu : X.A.units + 64 < cLine) : OpR X (compareOp .NotEq) (rNeA X.K) := opr_or op_ne (op_neD hu)
theorem ops_eq : OpS L (rEqA L.K) eqD := by
  intro F H x y dx dy d Q ex hf rx ry q
  obtain ⟨b, hb, rfl⟩ := Option.map_eq_some_iff.mp hf
  have q' := q _ F H (.refl ex) (.bl b)
  rcases eqB_ok ex hb rx ry with ⟨h1, h2⟩ | ⟨d, e, h1, h2, h3, h4, h5⟩
  · exact .inl ⟨h1, by rw [h2]; exact q'⟩
  · exact .inr ⟨d, e, h1, h2, h3, h4, by rw [h5]; exact q'⟩
theorem ops_ne : OpS L (rNeA L.K) neD := by
  intro F H x y dx dy d Q ex hf rx ry q
  obtain ⟨b, hb, rfl⟩ := Option.map_eq_some_iff.mp hf
  have q' := q _ F H (.refl ex) (.bl !b)
  rcases eqB_ok ex hb rx ry with ⟨h1, h2⟩ | ⟨d, e, h1, h2, h3, h4, h5⟩
  · exact .inl ⟨h1, by rw [h2]; exact q'⟩
  · exact .inr ⟨d, e, h1, h2, h3, h4, by rw [h5]; exact q'⟩

/-! ### in -/
def inB (x y : D) : Option Bool := match y with
  | .str z => match x with
    | .str c => if c.cps.size = 1 then some (decide (c.cps.getD 0 0 ∈ z.cps.toList)) else none
    | _ => none
  | .lst ds => (flatOf x).bind fun v => (flatsOf ds).map fun vs => inV v vs
  | .tup ds => (flatOf x).bind fun v => (flatsOf ds).map fun vs => inV v vs
  | _ => none
def inD (x y : D) : Option D := (inB x y).map .bl
def ninD (x y : D) : Option D := (inB x y).map fun b => .bl (!b)
def rInA (K : PySem.W.Frag) : R2 := fun x y H Q => rIn K false x y H Q ∨ ∃ (c : Nat) (z : Str), x = .str ⟨#[c]⟩ ∧ y = .str z ∧ Q (.bl (decide (c ∈ z.cps.toList))) H
def rNinA (K : PySem.W.Frag) : R2 := fun x y H Q => rIn K true x y H Q ∨ ∃ (c : Nat) (z : Str), x = .str ⟨#[c]⟩ ∧ y = .str z ∧ Q (.bl (!decide (c ∈ z.cps.toList))) H
theorem op_inA : OpR X (compareOp .In) (rInA X.K) := opr_or op_in_seq op_in_sign
theorem op_ninA : OpR X (compareOp .NotIn) (rNinA X.K) := opr_or op_notIn_seq op_notIn_sign
theorem one_sign {c : Str} (h : c.cps.size = 1) : c = ⟨#[c.cps.getD 0 0]⟩ := by
  obtain ⟨a⟩ := c
  obtain ⟨l⟩ := a
  simp only [List.size_toArray] at h
  match l, h with
  | [x], _ => rfl
theorem inB_ok {F H : Hp} {x y : V} {dx dy : D} {b : Bool} (ex : Ex F H) (hf : inB dx dy = some b) (rx : RepR L F H x dx) (ry : RepR L F H y dy) :
    (∃ p xs, y = .ref p ∧ (SqL L.K H p xs ∨ SqT L.K H p xs) ∧ flatV x = true ∧ xs.all flatV = true ∧ inV x xs = b) ∨ ∃ (c : Nat) (z : Str), x = .str ⟨#[c]⟩ ∧ y = .str z ∧ decide (c ∈ z.cps.toList) = b := by
  unfold inB at hf
  split at hf
  · split at hf
    · split at hf
      · rename_i h; cases hf; rw [rx.str, ry.str]; exact .inr ⟨_, _, congrArg V.str (one_sign h), rfl, rfl⟩
      · cases hf
    · cases hf
  · simp only [Option.bind_eq_some_iff, Option.map_eq_some_iff] at hf
    obtain ⟨v, h1, vs, h2, rfl⟩ := hf
    obtain ⟨a, ws, e1, e2, e3⟩ := ry.lst ex
    obtain ⟨rfl, e5⟩ := flats_rep e3 h2
    rw [flat_rep rx h1]
    exact .inl ⟨a, ws, e1, .inl (SqL.of e2), flat_flatV h1, e5, rfl⟩
  · simp only [Option.bind_eq_some_iff, Option.map_eq_some_iff] at hf
    obtain ⟨v, h1, vs, h2, rfl⟩ := hf
    obtain ⟨a, ws, e1, e2, e3⟩ := ry.tup ex
    obtain ⟨rfl, e5⟩ := flats_rep e3 h2
    rw [flat_rep rx h1]
    exact .inl ⟨a, ws, e1, .inr e2, flat_flatV h1, e5, rfl⟩
  · cases hf
theorem ops_in : OpS L (rInA L.K) inD := by
  intro F H x y dx dy d Q ex hf rx ry q
  obtain ⟨b, hb, rfl⟩ := Option.map_eq_some_iff.mp hf
  have q' := q _ F H (.refl ex) (.bl b)
  rcases inB_ok ex hb rx ry with ⟨p, xs, h1, h2, h3, h4, h5⟩ | ⟨c, z, h1, h2, h3⟩
  · exact .inl ⟨p, xs, h1, h2, h3, h4, by rw [if_neg Bool.false_ne_true, h5]; exact q'⟩
  · exact .inr ⟨c, z, h1, h2, by rw [h3]; exact q'⟩
theorem ops_nin : OpS L (rNinA L.K) ninD := by
  intro F H x y dx dy d Q ex hf rx ry q
  obtain ⟨b, hb, rfl⟩ := Option.map_eq_some_iff.mp hf
  have q' := q _ F H (.refl ex) (.bl !b)
  rcases inB_ok ex hb rx ry with ⟨p, xs, h1, h2, h3, h4, h5⟩ | ⟨c, z, h1, h2, h3⟩
  · exact .inl ⟨p, xs, h1, h2, h3, h4, by rw [if_pos rfl, h5]; exact q'⟩
  · exact .inr ⟨c, z, h1, h2, by rw [h3]; exact q'⟩

/-! ### is None -/
def isNonD : D → D → Option D
  | .non, .non => some (.bl true)
  | .bl _, .non => some (.bl false) | .int _, .non => some (.bl false) | .str _, .non => some (.bl false)
  | .lst _, .non => some (.bl false) | .tup _, .non => some (.bl false) | .obj _ _, .non => some (.bl false) | .dk _, .non => some (.bl false)
  | _, _ => none
def isB : D → D → Option Bool
  | .non, .non => some true
  | .bl _, .non => some false | .int _, .non => some false | .str _, .non => some false
  | .lst _, .non => some false | .tup _, .non => some false | .obj _ _, .non => some false | .dk _, .non => some false
  | _, _ => none
theorem isB_ok {F H : Hp} {x y : V} {dx dy : D} {b : Bool} (hf : isB dx dy = some b) (rx : RepR L F H x dx) (ry : RepR L F H y dy) : y = .non ∧ decide (x = .non) = b := by
  have hx : ∀ {d : D}, RepR L F H x d → (∃ xs, d = .lst xs) ∨ (∃ xs, d = .tup xs) ∨ (∃ C fs, d = .obj C fs) ∨ (∃ k, d = .dk k) → decide (x = .non) = false := fun {d} r h => by
    have : ∃ a, x = .ref a := by
      rcases r with r | ⟨a, vs, xs, e1, _⟩
      · rcases h with ⟨xs, rfl⟩ | ⟨xs, rfl⟩ | ⟨C, fs, rfl⟩ | ⟨k, rfl⟩ <;> cases r <;> exact ⟨_, rfl⟩
      · exact ⟨a, e1⟩
    obtain ⟨a, rfl⟩ := this
    rfl
  unfold isB at hf
  split at hf
  · cases hf; rw [rx.non]; exact ⟨ry.non, rfl⟩
  · cases hf; rw [rx.bl]; exact ⟨ry.non, rfl⟩
  · cases hf; rw [rx.int]; exact ⟨ry.non, rfl⟩
  · cases hf; rw [rx.str]; exact ⟨ry.non, rfl⟩
  · cases hf; exact ⟨ry.non, hx rx (.inl ⟨_, rfl⟩)⟩
  · cases hf; exact ⟨ry.non, hx rx (.inr (.inl ⟨_, rfl⟩))⟩
  · cases hf; exact ⟨ry.non, hx rx (.inr (.inr (.inl ⟨_, _, rfl⟩)))⟩
  · cases hf; exact ⟨ry.non, hx rx (.inr (.inr (.inr ⟨_, rfl⟩)))⟩
  · cases hf
def isD (x y : D) : Option D := (isB x y).map .bl
def isntD (x y : D) : Option D := (isB x y).map fun b => .bl (!b)
theorem ops_is : OpS L (fun x y H Q => y = .non ∧ Q (.bl (decide (x = .non))) H) isD := by
  intro F H x y dx dy d Q ex hf rx ry q
  obtain ⟨b, hb, rfl⟩ := Option.map_eq_some_iff.mp hf
  obtain ⟨h1, h2⟩ := isB_ok hb rx ry
  exact ⟨h1, by rw [h2]; exact q _ F H (.refl ex) (.bl b)⟩
theorem ops_isnt : OpS L (fun x y H Q => y = .non ∧ Q (.bl (!decide (x = .non))) H) isntD := by
  intro F H x y dx dy d Q ex hf rx ry q
  obtain ⟨b, hb, rfl⟩ := Option.map_eq_some_iff.mp hf
  obtain ⟨h1, h2⟩ := isB_ok hb rx ry
  exact ⟨h1, by rw [h2]; exact q _ F H (.refl ex) (.bl !b)⟩

/-! ### a place of a sequence -/
def ixD : D → D → Option D
  | .lst xs, .int i => atI xs i
  | .tup xs, .int i => atI xs i
  | .lsx xs, .int i => atI xs i
  | .str z, .int i => if z.length ≤ 16777216 then (atI z.cps.toList i).map fun c => .str ⟨#[c]⟩ else none
  | _, _ => none
theorem atI_reps {F : Hp} {vs : List V} {ds : List D} {i : Int} {d : D} (h : Reps L.K F vs ds) (e : atI ds i = some d) : ∃ v, atI vs i = some v ∧ Rep L.K F v d := by
  unfold atI at e ⊢
  rw [h.1]
  cases q : ixN ds.length i with
  | none => rw [q] at e; cases e
  | some j => rw [q, Option.bind_some] at e; rw [Option.bind_some]; exact h.get e
theorem ops_ix : OpS L (rIx L.K) ixD := by
  intro F H x y dx dy d Q ex hf rx ry q
  unfold ixD at hf
  split at hf
  · obtain ⟨a, vs, e1, e2, e3⟩ := rx.lst ex
    obtain ⟨v, h1, h2⟩ := atI_reps e3 hf
    exact .inl ⟨a, vs, _, v, e1, ry.int, SqL.of e2, h1, q v F H (.refl ex) h2⟩
  · obtain ⟨a, vs, e1, e2, e3⟩ := rx.tup ex
    obtain ⟨v, h1, h2⟩ := atI_reps e3 hf
    exact .inr (.inl ⟨a, vs, _, v, e1, ry.int, e2, h1, q v F H (.refl ex) h2⟩)
  · obtain ⟨a, vs, e1, e2, e3⟩ := rx.lsx ex
    obtain ⟨v, h1, h2⟩ := atI_reps e3 hf
    exact .inl ⟨a, vs, _, v, e1, ry.int, e2, h1, q v F H (.refl ex) h2⟩
  · split at hf
    · rename_i hl
      obtain ⟨c, h1, rfl⟩ := Option.map_eq_some_iff.mp hf
      exact .inr (.inr ⟨_, _, c, rx.str, ry.int, by rw [line_eq]; exact hl, h1, q _ F H (.refl ex) (.str _)⟩)
    · cases hf
  · cases hf
end
end KL
/-! KL, part d: expressions put together. -/
namespace KL
open PySem L2

section
variable {X : Cx} {L : Lx} {W : WX} {σ : L2.St} {Δ Δ' : DEnv} {F H : Hp} {a b c e : Expr} {es : List Expr} {ma mb mc me : DEnv → Res D} {pos p : Pos} {x : Str} {i : Nat}
/-! ### two operands -/
theorem d_bin {op : Operator} {r : R2} {f : D → D → Option D} (ho : OpR X (binaryOp op) r) (hf : OpS L r f) (ha : DE X L W a ma) (hb : DR X L W b mb) : DE X L W (.BinOp a op b pos) (opM f ma mb) :=
  let ⟨_, p1, s1⟩ := ha.ex
  let ⟨_, p2, s2⟩ := hb.ex
  ⟨_, pe_op ho p1 p2, snd_op hf s1 s2⟩
theorem d_binV {op : Operator} {r : R2} {f : D → D → Option D} (ho : OpR X (binaryOp op) r) (hf : OpS L r f) (hN : X.N[i]? = some x) (hv : Vis X.env.scope x) (hd : (x == ("__debug__" : Str)) = false) (hcd : (x == ("__classdict__" : Str)) = false) (hb : DR X L W b mb) :
    DE X L W (.BinOp (.Name x p) op b pos) (opV f i mb) :=
  let ⟨_, p2, s2⟩ := hb.ex
  ⟨_, pe_op ho (pe_var hN hv hd hcd) p2, snd_opV hf s2⟩
theorem d_cmp {op : CmpOp} {r : R2} {f : D → D → Option D} (ho : OpR X (compareOp op) r) (hf : OpS L r f) (hm : behindInMarks op b = false) (ha : DE X L W a ma) (hb : DR X L W b mb) : DE X L W (.Compare a [op] [b] pos) (opM f ma mb) :=
  let ⟨_, p1, s1⟩ := ha.ex
  let ⟨_, p2, s2⟩ := hb.ex
  ⟨_, pe_cmpR ho p1 p2 hm, snd_op hf s1 s2⟩
theorem d_cmpV {op : CmpOp} {r : R2} {f : D → D → Option D} (ho : OpR X (compareOp op) r) (hf : OpS L r f) (hm : behindInMarks op b = false) (hN : X.N[i]? = some x) (hv : Vis X.env.scope x) (hd : (x == ("__debug__" : Str)) = false) (hcd : (x == ("__classdict__" : Str)) = false) (hb : DR X L W b mb) :
    DE X L W (.Compare (.Name x p) [op] [b] pos) (opV f i mb) :=
  let ⟨_, p2, s2⟩ := hb.ex
  ⟨_, pe_cmpR ho (pe_var hN hv hd hcd) p2 hm, snd_opV hf s2⟩
theorem d_ix (hs : PlainIx b) (ha : DE X L W a ma) (hb : DR X L W b mb) (hk : L.K = X.K := by rfl) : DE X L W (.Subscript a b pos) (opM ixD ma mb) :=
  let ⟨_, p1, s1⟩ := ha.ex
  let ⟨_, p2, s2⟩ := hb.ex
  ⟨_, pe_ix ix_seq p1 p2 hs, snd_op (hk ▸ ops_ix) s1 s2⟩
theorem d_ixV (hs : PlainIx b) (hN : X.N[i]? = some x) (hv : Vis X.env.scope x) (hd : (x == ("__debug__" : Str)) = false) (hcd : (x == ("__classdict__" : Str)) = false) (hb : DR X L W b mb) (hk : L.K = X.K := by rfl) :
    DE X L W (.Subscript (.Name x p) b pos) (opV ixD i mb) :=
  let ⟨_, p2, s2⟩ := hb.ex
  ⟨_, pe_ix ix_seq (pe_var hN hv hd hcd) p2 hs, snd_opV (hk ▸ ops_ix) s2⟩

/-! ### tests -/
def asB (m : DEnv → Res D) : DEnv → Res Bool := fun Δ => (m Δ).bind fun d Δ1 => match d with
  | .bl b => .ok b Δ1
  | _ => .stuck
theorem snd_asB {te : TE} {m : DEnv → Res D} (h : Snd L W te m) : SndT L W (tTest te) (asB m) := by
  intro σ Δ F H Q env w
  refine h σ Δ F H _ env (w.bind.mono fun d Δ' F' H' env' q v r => ?_)
  cases d with
  | bl b => cases r; exact ⟨b, rfl, q F' H' env' .refl⟩
  | _ => exact q.elim
theorem t_cmp {op : CmpOp} {r : R2} {f : D → D → Option D} (ho : OpR X (compareOp op) r) (hf : OpS L r f) (hm : behindInMarks op b = false) (ha : DE X L W a ma) (hb : DR X L W b mb) : DT X L W (.Compare a [op] [b] pos) (asB (opM f ma mb)) :=
  let ⟨_, p1, s1⟩ := ha.ex
  let ⟨_, p2, s2⟩ := hb.ex
  ⟨_, pt_cmpR ho p1 p2 hm, snd_asB (snd_op hf s1 s2)⟩
theorem t_cmpV {op : CmpOp} {r : R2} {f : D → D → Option D} (ho : OpR X (compareOp op) r) (hf : OpS L r f) (hm : behindInMarks op b = false) (hN : X.N[i]? = some x) (hv : Vis X.env.scope x) (hd : (x == ("__debug__" : Str)) = false) (hcd : (x == ("__classdict__" : Str)) = false) (hb : DR X L W b mb) :
    DT X L W (.Compare (.Name x p) [op] [b] pos) (asB (opV f i mb)) :=
  let ⟨_, p2, s2⟩ := hb.ex
  ⟨_, pt_cmpR ho (pe_var hN hv hd hcd) p2 hm, snd_asB (snd_opV hf s2)⟩
/-- truth -/
def truD : D → Option Bool
  | .non => some false
  | .bl b => some b
  | .int i => some (i != 0)
  | .str x => if x.length ≤ 16777216 then some ((x.length : Int) != 0) else none
  | .lst xs => some (!xs.isEmpty)
  | .tup xs => some (!xs.isEmpty)
  | _ => none
def truM (m : DEnv → Res D) : DEnv → Res Bool := fun Δ => (m Δ).bind fun d Δ1 => .opt (truD d) Δ1
theorem isEmpty_len {α β : Type} {xs : List α} {ys : List β} (h : xs.length = ys.length) : xs.isEmpty = ys.isEmpty := by
  cases xs <;> cases ys <;> simp_all
theorem truD_ok {v : V} {d : D} {k : Bool} (ex : Ex F H) (hf : truD d = some k) (r : RepR L F H v d) : TruV L.K v H k := by
  cases d with
  | non => cases hf; rw [r.non]; exact rfl
  | bl b => cases hf; rw [r.bl]; exact rfl
  | int i => cases hf; rw [r.int]; exact rfl
  | str x =>
    replace hf : (if x.length ≤ 16777216 then some ((x.length : Int) != 0) else none) = some k := hf
    split at hf
    · rename_i hl; cases hf; rw [r.str]; exact ⟨by rw [line_eq]; exact hl, rfl⟩
    · cases hf
  | lst xs =>
    cases hf
    obtain ⟨a, vs, rfl, h1, h2⟩ := r.lst ex
    exact .inl ⟨vs, SqL.of h1, by rw [isEmpty_len h2.1]⟩
  | tup xs =>
    cases hf
    obtain ⟨a, vs, rfl, h1, h2⟩ := r.tup ex
    exact .inr (.inl ⟨vs, h1, by rw [isEmpty_len h2.1]⟩)
  | _ => cases hf
theorem t_truth (h : DR X L W e me) (he : ∀ whole, isTrue e X.env whole = (do let v ← whole; standAt e.pos; holding [v] (truthy v))) (hk : L.K = X.K := by rfl) : DT X L W e (truM me) := by
  obtain ⟨te, p1, s1⟩ := h.ex
  refine ⟨_, pt_truth p1 he, ?_⟩
  intro σ Δ F H Q env w
  refine s1 σ Δ F H _ env (w.bind.mono fun d Δ' F' H' env' q v r => ?_)
  cases g : truD d with
  | none => rw [g] at q; exact q.elim
  | some k => rw [g] at q; exact ⟨k, hk ▸ truD_ok env'.ex g r, q F' H' env' .refl⟩
def notM (m : DEnv → Res Bool) : DEnv → Res Bool := fun Δ => (m Δ).map (!·)
theorem t_not {m : DEnv → Res Bool} (h : DT X L W e m) : DT X L W (.UnaryOp .Not e pos) (notM m) := by
  obtain ⟨te, p1, s1⟩ := h.ex
  refine ⟨_, pt_not p1, fun σ Δ F H Q env w => ?_⟩
  exact s1 σ Δ F H _ env (w.bind.mono fun d Δ' F' H' env' q => q F' H' env' .refl)
structure DW (X : Cx) (L : Lx) (W : WX) (e : Expr) (m : DEnv → Res Bool) : Prop where ex : ∃ tt, PW X e tt ∧ SndT L W tt m
theorem DW.t {m : DEnv → Res Bool} (h : DW X L W e m) : DT X L W e m := ⟨let ⟨_, p1, s1⟩ := h.ex; ⟨_, p1.pt, s1⟩⟩
def andM (m n : DEnv → Res Bool) : DEnv → Res Bool := fun Δ => (m Δ).bind fun c Δ1 => if c = true then n Δ1 else .ok false Δ1
def orM (m n : DEnv → Res Bool) : DEnv → Res Bool := fun Δ => (m Δ).bind fun c Δ1 => if c = true then .ok true Δ1 else n Δ1
theorem w_and1 {m : DEnv → Res Bool} (h : DT X L W a m) : DW X L W (.BoolOp .And [a] pos) m := ⟨let ⟨_, p1, s1⟩ := h.ex; ⟨_, pw_and1 p1, s1⟩⟩
theorem w_or1 {m : DEnv → Res Bool} (h : DT X L W a m) : DW X L W (.BoolOp .Or [a] pos) m := ⟨let ⟨_, p1, s1⟩ := h.ex; ⟨_, pw_or1 p1, s1⟩⟩
theorem w_and {m n : DEnv → Res Bool} (h : DT X L W a m) (h2 : DW X L W (.BoolOp .And (b :: es) pos) n) : DW X L W (.BoolOp .And (a :: b :: es) pos) (andM m n) := by
  obtain ⟨_, p1, s1⟩ := h.ex
  obtain ⟨_, p2, s2⟩ := h2.ex
  refine ⟨_, pw_and p1 p2, fun σ Δ F H Q env w => ?_⟩
  refine s1 σ Δ F H _ env (w.bind.mono fun k Δ' F' H' env' q => ?_)
  cases k with
  | true => exact s2 σ Δ' F' H' Q env' q
  | false => exact q F' H' env' .refl
theorem w_or {m n : DEnv → Res Bool} (h : DT X L W a m) (h2 : DW X L W (.BoolOp .Or (b :: es) pos) n) : DW X L W (.BoolOp .Or (a :: b :: es) pos) (orM m n) := by
  obtain ⟨_, p1, s1⟩ := h.ex
  obtain ⟨_, p2, s2⟩ := h2.ex
  refine ⟨_, pw_or p1 p2, fun σ Δ F H Q env w => ?_⟩
  refine s1 σ Δ F H _ env (w.bind.mono fun k Δ' F' H' env' q => ?_)
  cases k with
  | true => exact q F' H' env' .refl
  | false => exact s2 σ Δ' F' H' Q env' q
/-! as values: bools -/
def andV (m n : DEnv → Res D) : DEnv → Res D := fun Δ => (m Δ).bind fun d Δ1 => match d with
  | .bl true => n Δ1
  | .bl false => .ok (.bl false) Δ1
  | _ => .stuck
def orV (m n : DEnv → Res D) : DEnv → Res D := fun Δ => (m Δ).bind fun d Δ1 => match d with
  | .bl true => .ok (.bl true) Δ1
  | .bl false => n Δ1
  | _ => .stuck
def notV (m : DEnv → Res D) : DEnv → Res D := fun Δ => (m Δ).bind fun d Δ1 => match d with
  | .bl b => .ok (.bl !b) Δ1
  | _ => .stuck
theorem d_one {op : BoolOp} (h : DE X L W a ma) : DE X L W (.BoolOp op [a] pos) ma := ⟨let ⟨_, p1, s1⟩ := h.ex; ⟨_, pe_one p1, s1⟩⟩
theorem d_and (h : DE X L W a ma) (h2 : DE X L W (.BoolOp .And (b :: es) pos) mb) : DE X L W (.BoolOp .And (a :: b :: es) pos) (andV ma mb) := by
  obtain ⟨_, p1, s1⟩ := h.ex
  obtain ⟨_, p2, s2⟩ := h2.ex
  refine ⟨_, pe_and p1 p2, fun σ Δ F H Q env w => ?_⟩
  refine s1 σ Δ F H _ env (w.bind.mono fun d Δ' F' H' env' q v r => ?_)
  cases d with
  | bl k =>
    cases r
    refine ⟨k, rfl, ?_⟩
    cases k with
    | true => exact s2 σ Δ' F' H' Q env' q
    | false => exact q F' H' env' .refl _ (.bl false)
  | _ => exact q.elim
theorem d_or (h : DE X L W a ma) (h2 : DE X L W (.BoolOp .Or (b :: es) pos) mb) : DE X L W (.BoolOp .Or (a :: b :: es) pos) (orV ma mb) := by
  obtain ⟨_, p1, s1⟩ := h.ex
  obtain ⟨_, p2, s2⟩ := h2.ex
  refine ⟨_, pe_or p1 p2, fun σ Δ F H Q env w => ?_⟩
  refine s1 σ Δ F H _ env (w.bind.mono fun d Δ' F' H' env' q v r => ?_)
  cases d with
  | bl k =>
    cases r
    refine ⟨k, rfl, ?_⟩
    cases k with
    | true => exact q F' H' env' .refl _ (.bl true)
    | false => exact s2 σ Δ' F' H' Q env' q
  | _ => exact q.elim
theorem d_not (h : DE X L W a ma) : DE X L W (.UnaryOp .Not a pos) (notV ma) := by
  obtain ⟨_, p1, s1⟩ := h.ex
  refine ⟨_, pe_not p1, fun σ Δ F H Q env w => ?_⟩
  refine s1 σ Δ F H _ env (w.bind.mono fun d Δ' F' H' env' q v r => ?_)
  cases d with
  | bl k => cases r; exact ⟨k, rfl, q F' H' env' .refl _ (.bl _)⟩
  | _ => exact q.elim
def ifM {α : Type} (c : DEnv → Res Bool) (m n : DEnv → Res α) : DEnv → Res α := fun Δ => (c Δ).bind fun k Δ1 => if k = true then m Δ1 else n Δ1
theorem d_if {mt : DEnv → Res Bool} (ht : DT X L W c mt) (ha : DE X L W a ma) (hb : DE X L W b mb) : DE X L W (.IfExp c a b pos) (ifM mt ma mb) := by
  obtain ⟨_, p0, s0⟩ := ht.ex
  obtain ⟨_, p1, s1⟩ := ha.ex
  obtain ⟨_, p2, s2⟩ := hb.ex
  refine ⟨_, pe_ifExp p0 p1 p2, fun σ Δ F H Q env w => ?_⟩
  refine s0 σ Δ F H _ env (w.bind.mono fun k Δ' F' H' env' q => ?_)
  cases k with
  | true => exact s1 σ Δ' F' H' Q env' q
  | false => exact s2 σ Δ' F' H' Q env' q

/-! ### arguments, displays -/
theorem a_nil : DA X L W [] (fun Δ => .ok [] Δ) := ⟨_, pa_nil, fun σ Δ F H Q env w => w F H env .refl [] .nil⟩
def consM (m : DEnv → Res D) (n : DEnv → Res (List D)) : DEnv → Res (List D) := fun Δ => (m Δ).bind fun d Δ1 => (n Δ1).map (d :: ·)
theorem a_cons {n : DEnv → Res (List D)} (h : DE X L W e me) (hs : DA X L W es n) (hst : starEach (e :: es) X.env = (false, eval e X.env) :: starEach es X.env := by rfl) : DA X L W (e :: es) (consM me n) := by
  obtain ⟨_, p1, s1⟩ := h.ex
  obtain ⟨_, p2, s2⟩ := hs.ex
  refine ⟨_, pa_cons p1 p2 hst, fun σ Δ F H Q env w => ?_⟩
  refine s1 σ Δ F H _ env (w.bind.mono fun d Δ1 F1 H1 env1 w1 v r => ?_)
  refine s2 σ Δ1 F1 H1 _ env1 ?_
  have w2 : Want L W σ Δ1 F1 H1 ((n Δ1).map (d :: ·)) _ := w1
  cases q : n Δ1 with
  | stuck => rw [q] at w2; exact w2
  | ex x Δ' => rw [q] at w2; exact w2
  | ok ds Δ2 =>
    rw [q] at w2
    intro F2 H2 env2 st2 vs rs
    exact w2 F2 H2 env2 st2 (v :: vs) (.cons (r.mono st2.fr) rs)
def gd {α : Type} (c : Bool) (r : Res α) : Res α := if c = true then r else .stuck
def tupM (n : DEnv → Res (List D)) : DEnv → Res D := fun Δ => (n Δ).bind fun ds Δ1 => gd (decide (ds.length ≤ 16777216)) (.ok (.tup ds) Δ1)
theorem d_tup {n : DEnv → Res (List D)} {x1} (h : DA X L W es n) : DE X L W (.Tuple es x1 pos) (tupM n) := by
  obtain ⟨_, p1, s1⟩ := h.ex
  refine ⟨_, pe_tup p1, fun σ Δ F H Q env w => ?_⟩
  refine s1 σ Δ F H _ env (w.bind.mono fun ds Δ1 F1 H1 env1 w1 vs rs => ?_)
  unfold gd at w1
  split at w1
  · rename_i hl
    refine ⟨by rw [line_eq, rs.1]; exact of_decide_eq_true hl, fun p hp => ?_⟩
    have g : Gro F1 H1 _ _ := .new (o := .tup vs) env1.ex hp
    exact w1 _ _ (env1.gro g) (.gro g) _ (.tup (SqT.of upd_same) rs.1 fun i v d h1 h2 => (rs.2 i v d h1 h2).mono g.f)
  · exact w1.elim
def lstM (n : DEnv → Res (List D)) : DEnv → Res (List D) := fun Δ => (n Δ).bind fun ds Δ1 => gd (decide (ds.length ≤ 16777216)) (.ok ds Δ1)
theorem f_lst {n : DEnv → Res (List D)} (h : DA X L W es n) : DF X L W (.List es pos) (lstM n) := by
  obtain ⟨_, p1, s1⟩ := h.ex
  refine ⟨_, pe_lst p1, fun σ Δ F H Q env w => ?_⟩
  refine s1 σ Δ F H _ env ?_
  have w0 : Want L W σ Δ F H (lstM n Δ) _ := w
  unfold lstM at w0
  cases q : n Δ with
  | stuck => rw [q] at w0; exact w0
  | ex x Δ' => rw [q] at w0; exact w0
  | ok ds Δ1 =>
    rw [q] at w0
    intro F1 H1 env1 st1 vs rs
    have w1 : Want L W σ Δ F H (gd (decide (ds.length ≤ 16777216)) (.ok ds Δ1)) _ := w0
    unfold gd at w1
    split at w1
    · rename_i hl
      refine ⟨by rw [line_eq, rs.1]; exact of_decide_eq_true hl, fun p hp => ?_⟩
      obtain ⟨a1, a2, a3, a4⟩ := fresh_env (vs := vs) env1 hp
      exact w1 F1 _ a1 (st1.trans a2) p vs (st1.hn hp) a3 a4 upd_same rs
    · exact w1.elim

/-! ### built-ins of one argument -/
def CallS1 (L : Lx) (r : List V → Hp → VK → Prop) (g : D → Option D) : Prop := ∀ (F H : Hp) (v : V) (d z : D) (Q : VK), Ex F H → g d = some z → RepR L F H v d → (∀ u F' H', Gro F H F' H' → Rep L.K F' u z → Q u H') → r [v] H Q
def call1 (g : D → Option D) (m : DEnv → Res D) : DEnv → Res D := fun Δ => (m Δ).bind fun d Δ1 => .opt (g d) Δ1
theorem snd_call1 {r : List V → Hp → VK → Prop} {g : D → Option D} {te : TE} (hs : CallS1 L r g) (h : SndR L W te me) : Snd L W (tCB r (tCons te tNil)) (call1 g me) := by
  intro σ Δ F H Q env w
  refine h σ Δ F H _ env (w.bind.mono fun d Δ1 F1 H1 env1 w1 v rv => ?_)
  cases q : g d with
  | none => rw [q] at w1; exact w1.elim
  | some z => rw [q] at w1; exact hs F1 H1 v d z Q env1.ex q rv fun u F' H' gr ru => w1 F' H' (env1.gro gr) (.gro gr) u ru
theorem d_callB1 {r : List V → Hp → VK → Prop} {g : D → Option D} {id : String} (hc : CallR X (.builtin id) r) (hs : CallS1 L r g) (hg : Gl X x) (hm : X.mg x = none) (hv : bootBuiltins x = some (.builtin id)) (hn : x ≠ "__name__") (hdb : (x == ("__debug__" : Str)) = false) (h : DR X L W e me)
    (hst : starEach (e :: []) X.env = (false, eval e X.env) :: starEach [] X.env := by rfl) (hpl : (backTo pos (starEach [] X.env)).any (·.1) = false := by rfl) : DE X L W (.Call (.Name x p) [e] [] pos) (call1 g me) :=
  let ⟨_, p1, s1⟩ := h.ex
  ⟨_, pe_callB hc hg hm hv (pa_cons p1 pa_nil hst) hn hdb hst hpl, snd_call1 hs s1⟩
theorem d_callT1 {r : List V → Hp → VK → Prop} {g : D → Option D} {T : String} (hc : CallR X (.type T) r) (hs : CallS1 L r g) (hg : Gl X x) (hm : X.mg x = none) (hv : bootBuiltins x = some (.type T)) (hn : x ≠ "__name__") (hdb : (x == ("__debug__" : Str)) = false) (h : DR X L W e me)
    (hst : starEach (e :: []) X.env = (false, eval e X.env) :: starEach [] X.env := by rfl) (hpl : (backTo pos (starEach [] X.env)).any (·.1) = false := by rfl) : DE X L W (.Call (.Name x p) [e] [] pos) (call1 g me) :=
  let ⟨_, p1, s1⟩ := h.ex
  ⟨_, pe_callTy hc hg hm hv (pa_cons p1 pa_nil hst) hn hdb hst hpl, snd_call1 hs s1⟩
def lenD : D → Option D
  | .str x => if x.length ≤ 16777216 then some (.int x.length) else none
  | .lst xs => some (.int xs.length)
  | .tup xs => some (.int xs.length)
  | .lsx xs => some (.int xs.length)
  | _ => none
theorem calls_len : CallS1 L (fun xs H Q => ∃ x n, xs = [x] ∧ LenV L.K x H n ∧ Q (.int n) H) lenD := by
  intro F H v d z Q ex hf rv q
  unfold lenD at hf
  split at hf
  · split at hf
    · rename_i hl; cases hf; rw [rv.str]; exact ⟨_, _, rfl, ⟨by rw [line_eq]; exact hl, rfl⟩, q _ F H (.refl ex) (.int _)⟩
    · cases hf
  · cases hf
    obtain ⟨a, vs, rfl, h1, h2⟩ := rv.lst ex
    exact ⟨_, _, rfl, .inl ⟨vs, SqL.of h1, rfl⟩, by rw [h2.1]; exact q _ F H (.refl ex) (.int _)⟩
  · cases hf
    obtain ⟨a, vs, rfl, h1, h2⟩ := rv.tup ex
    exact ⟨_, _, rfl, .inr ⟨vs, h1, rfl⟩, by rw [h2.1]; exact q _ F H (.refl ex) (.int _)⟩
  · cases hf
    obtain ⟨a, vs, rfl, h1, h2⟩ := rv.lsx ex
    exact ⟨_, _, rfl, .inl ⟨vs, h1, rfl⟩, by rw [h2.1]; exact q _ F H (.refl ex) (.int _)⟩
  · cases hf
def absD : D → Option D
  | .int i => some (.int (if i < 0 then -i else i))
  | _ => none
theorem calls_abs : CallS1 L (fun xs H Q => ∃ i, xs = [.int i] ∧ Q (.int (if i < 0 then -i else i)) H) absD := by
  intro F H v d z Q ex hf rv q
  unfold absD at hf
  split at hf
  · cases hf; rw [rv.int]; exact ⟨_, rfl, q _ F H (.refl ex) (.int _)⟩
  · cases hf
def intD1 : D → Option D
  | .int i => some (.int i)
  | .bl k => some (.int (if k then 1 else 0))
  | _ => none
theorem calls_int : CallS1 L (fun xs H Q => (∃ i, xs = [.int i] ∧ Q (.int i) H) ∨ ∃ k, xs = [.bl k] ∧ Q (.int (if k then 1 else 0)) H) intD1 := by
  intro F H v d z Q ex hf rv q
  unfold intD1 at hf
  split at hf
  · cases hf; rw [rv.int]; exact .inl ⟨_, rfl, q _ F H (.refl ex) (.int _)⟩
  · cases hf; rw [rv.bl]; exact .inr ⟨_, rfl, q _ F H (.refl ex) (.int _)⟩
  · cases hf

/-! ### isinstance -/
def tyD : D → Option String
  | .non => some "NoneType"
  | .bl _ => some "bool"
  | .int _ => some "int"
  | .str _ => some "str"
  | .lst _ => some "list"
  | .tup _ => some "tuple"
  | _ => none
def isiB (T : String) (d : D) : Option Bool := (tyD d).bind fun t => kitB t T
def isiM (T : String) (m : DEnv → Res D) : DEnv → Res D := call1 (fun d => (isiB T d).map .bl) m
theorem tyx_of {v : V} {d : D} {t : String} (ex : Ex F H) (h : tyD d = some t) (r : RepR L F H v d) : TyX L.K H v (.type t) := by
  cases d with
  | non => cases h; rw [r.non]; exact .base .non
  | bl b => cases h; rw [r.bl]; exact .base (.bl b)
  | int i => cases h; rw [r.int]; exact .base (.int i)
  | str x => cases h; rw [r.str]; exact .base (.str x)
  | lst xs =>
    cases h
    obtain ⟨a, vs, rfl, h1, h2⟩ := r.lst ex
    exact .base (.lst h1)
  | tup xs =>
    cases h
    obtain ⟨a, vs, rfl, h1, h2⟩ := r.tup ex
    rcases h1 with (h1 | ⟨o, h1⟩) | ⟨o, its, n, h1, h3, _⟩
    · exact .base (.tup h1)
    · exact .fTuple h1
    · exact .kTuple h1 h3
  | _ => cases h
theorem d_isi {T : String} {t : Str} {pt : Pos} (hg : Gl X x) (hm : X.mg x = none) (hv : bootBuiltins x = some (.builtin "isinstance")) (hn : x ≠ "__name__") (hdb : (x == ("__debug__" : Str)) = false) (hgT : Gl X t) (hmT : X.mg t = none) (hvT : bootBuiltins t = some (.type T)) (hnT : t ≠ "__name__") (hdT : (t == ("__debug__" : Str)) = false) (h : DE X L W e me)
    (hst : starEach (e :: [.Name t pt]) X.env = (false, eval e X.env) :: starEach [.Name t pt] X.env := by rfl) (hst2 : starEach (Expr.Name t pt :: []) X.env = (false, eval (.Name t pt) X.env) :: starEach [] X.env := by rfl)
    (hpl : (backTo pos (starEach [.Name t pt] X.env)).any (·.1) = false := by rfl) (hk : L.K = X.K := by rfl) : DE X L W (.Call (.Name x p) [e, .Name t pt] [] pos) (isiM T me) := by
  obtain ⟨_, p1, s1⟩ := h.ex
  refine ⟨_, pe_callB call_isi hg hm hv (pa_cons p1 (pa_cons (pe_bltn (v := .ty T) hgT hmT hvT rfl hnT hdT) pa_nil hst2) hst) hn hdb hst hpl, fun σ Δ F H Q env w => ?_⟩
  refine s1 σ Δ F H _ env (w.bind.mono fun d Δ1 F1 H1 env1 w1 v rv => ?_)
  replace w1 : Want L W σ Δ1 F1 H1 (Res.opt ((isiB T d).map D.bl) Δ1) _ := w1
  cases q : isiB T d with
  | none => rw [q] at w1; exact w1.elim
  | some k =>
    rw [q] at w1
    obtain ⟨t1, h1, h2⟩ := Option.bind_eq_some_iff.mp q
    exact ⟨v, .ty T, .type t1, .type T, k, rfl, .ty T, hk ▸ tyx_of env1.ex h1 rv.r, kit_ty h2, w1 F1 H1 env1 .refl _ (.bl k)⟩
end
end KL
/-! KL, part e: statements, loops, own lists. -/
namespace KL
open PySem L2

inductive SRes where
  | stuck | nx (Δ : DEnv) | rt (d : D) (Δ : DEnv) | rf (ds : List D) (Δ : DEnv) | bk (Δ : DEnv) | ct (Δ : DEnv) | ex (x : Exc) (Δ : DEnv)
def WantS (L : Lx) (W : WX) (σ : L2.St) (Δ : DEnv) (F H : Hp) (r : SRes) (D : Ends) : Prop := match r with
  | .stuck => False
  | .nx Δ' => ∀ σ' F' H', EnvOk L F' σ' Δ' H' → Step σ Δ F H σ' Δ' F' H' → D.nx σ' H'
  | .bk Δ' => ∀ σ' F' H', EnvOk L F' σ' Δ' H' → Step σ Δ F H σ' Δ' F' H' → D.bk σ' H'
  | .ct Δ' => ∀ σ' F' H', EnvOk L F' σ' Δ' H' → Step σ Δ F H σ' Δ' F' H' → D.ct σ' H'
  | .rt d Δ' => ∀ σ' v F' H', EnvOk L F' σ' Δ' H' → Step σ Δ F H σ' Δ' F' H' → Rep L.K F' v d → D.rt v H'
  | .rf ds Δ' => ∀ σ' p vs F' H', EnvOk L F' σ' Δ' H' → Step σ Δ F H σ' Δ' F' H' → (H p = none ∨ Own σ Δ p) → F' p = none → H' p = some (.lst vs) → (∀ (j : Nat) ys, Δ'[j]? = some (Cell.pa ys) → slot σ' j ≠ some (.ref p)) → Reps L.K F' vs ds → D.rt (.ref p) H'
  | .ex x Δ' => ∀ σ' c dd F' H', EnvOk L F' σ' Δ' H' → Step σ Δ F H σ' Δ' F' H' → XOk L F' c dd x → W c dd σ' H'
def SndS (L : Lx) (W : WX) (ts : TS) (m : DEnv → SRes) : Prop := ∀ (σ : L2.St) (Δ : DEnv) (F H : Hp) (D : Ends), EnvOk L F σ Δ H → WantS L W σ Δ F H (m Δ) D → ts D σ H
structure DS (X : Cx) (L : Lx) (W : WX) (st : Stmt) (m : DEnv → SRes) : Prop where ex : ∃ ts, PS X st ts ∧ SndS L W ts m
structure DSs (X : Cx) (L : Lx) (W : WX) (st : List Stmt) (m : DEnv → SRes) : Prop where ex : ∃ ts, PSs X st ts ∧ SndS L W ts m

def Res.s {α : Type} (r : Res α) (f : α → DEnv → SRes) : SRes := match r with
  | .stuck => .stuck
  | .ok a Δ => f a Δ
  | .ex x Δ => .ex x Δ
def SRes.seq (r : SRes) (f : DEnv → SRes) : SRes := match r with
  | .nx Δ => f Δ
  | r => r
/-- a loop's turn, then k -/
def SRes.loop (r : SRes) (k : DEnv → SRes) : SRes := match r with
  | .nx Δ => k Δ
  | .ct Δ => k Δ
  | .bk Δ => .nx Δ
  | r => r

section
variable {α : Type} {X : Cx} {L : Lx} {W : WX} {σ σ' σ1 : L2.St} {Δ Δ' Δ1 : DEnv} {F F' F1 H H' H1 : Hp} {E : Ends}
theorem WantS.later {r : SRes} (h : WantS L W σ Δ F H r E) (s : Step σ Δ F H σ1 Δ1 F1 H1) : WantS L W σ1 Δ1 F1 H1 r E := by
  cases r with
  | stuck => exact h
  | nx Δ' => exact fun σ' F' H' e t => h σ' F' H' e (s.trans t)
  | bk Δ' => exact fun σ' F' H' e t => h σ' F' H' e (s.trans t)
  | ct Δ' => exact fun σ' F' H' e t => h σ' F' H' e (s.trans t)
  | rt d Δ' => exact fun σ' v F' H' e t r => h σ' v F' H' e (s.trans t) r
  | rf ds Δ' => exact fun σ' p vs F' H' e t hp => h σ' p vs F' H' e (s.trans t) (hp.elim (fun z => .inl (s.hn z)) fun z => (s.ow p z).elim .inr .inl)
  | ex x Δ' => exact fun σ' c dd F' H' e t x => h σ' c dd F' H' e (s.trans t) x
/-- an expression, then what follows -/
theorem Want.ofS {r : Res α} {f : α → DEnv → SRes} (h : WantS L W σ Δ F H (r.s f) E) : Want L W σ Δ F H r (fun a Δ1 F1 H1 => WantS L W σ Δ1 F1 H1 (f a Δ1) E) := by
  cases r with
  | stuck => exact h
  | ok a Δ1 => exact fun F1 H1 e s => WantS.later h s
  | ex x Δ1 => exact fun c dd F1 H1 e s xo => h σ c dd F1 H1 e s xo
theorem WantS.seq {r : SRes} {f : DEnv → SRes} {N : L2.St → Hp → Prop} (h : WantS L W σ Δ F H (r.seq f) E) (hN : ∀ σ1 Δ1 F1 H1, EnvOk L F1 σ1 Δ1 H1 → WantS L W σ1 Δ1 F1 H1 (f Δ1) E → N σ1 H1) : WantS L W σ Δ F H r { E with nx := N } := by
  cases r with
  | nx Δ1 => exact fun σ1 F1 H1 e s => hN σ1 Δ1 F1 H1 e (WantS.later h s)
  | _ => exact h
theorem WantS.loop {r : SRes} {k : DEnv → SRes} {N : L2.St → Hp → Prop} (h : WantS L W σ Δ F H (r.loop k) E) (hN : ∀ σ1 Δ1 F1 H1, EnvOk L F1 σ1 Δ1 H1 → Step σ Δ F H σ1 Δ1 F1 H1 → WantS L W σ1 Δ1 F1 H1 (k Δ1) E → N σ1 H1) :
    WantS L W σ Δ F H r { E with nx := N, ct := N, bk := E.nx } := by
  cases r with
  | nx Δ1 => exact fun σ1 F1 H1 e s => hN σ1 Δ1 F1 H1 e s (WantS.later h s)
  | ct Δ1 => exact fun σ1 F1 H1 e s => hN σ1 Δ1 F1 H1 e s (WantS.later h s)
  | _ => exact h

/-! ### stores -/
def canSet (Δ : DEnv) (i : Nat) : Bool := match Δ[i]? with
  | some (.pa _) => false
  | none => false
  | _ => true
theorem canSet_lt {i : Nat} (h : canSet Δ i = true) : i < Δ.length := by
  by_cases hi : i < Δ.length
  · exact hi
  · unfold canSet at h; rw [List.getElem?_eq_none (by omega)] at h; cases h
theorem canSet_pa {i : Nat} {xs : List D} (h : canSet Δ i = true) : Δ[i]? ≠ some (.pa xs) := fun e => by
  unfold canSet at h; rw [e] at h; cases h
theorem set_slot {i j : Nat} {v : V} (hi : i < σ.length) : slot (σ.set i (some v)) j = if j = i then some v else slot σ j := slot_set hi
theorem EnvOk.setC {i : Nat} {c : Cell} {v : V} (env : EnvOk L F σ Δ H) (hi : canSet Δ i = true) (hc : CellOk L F H (some v) c) (hown : ∀ xs a, c.list? = some xs → v = .ref a → ¬ Own σ Δ a) : EnvOk L F (σ.set i (some v)) (Δ.set i c) H := by
  have hl := canSet_lt hi
  have hs : i < σ.length := by rw [env.len]; exact hl
  refine ⟨env.ex, by rw [List.length_set, List.length_set]; exact env.len, fun j c' hj => ?_, fun j k c1 c2 xs ys a hjk hj hk h1 h2 e1 e2 => ?_⟩
  · rcases list_set_get hj with ⟨rfl, rfl⟩ | ⟨nj, hj⟩
    · rw [set_slot hs, if_pos rfl]; exact hc
    · rw [set_slot hs, if_neg nj]; exact env.cells j c' hj
  · rw [set_slot hs] at e1 e2
    rcases list_set_get hj with ⟨ej, ec⟩ | ⟨nj, gj⟩
    · rcases list_set_get hk with ⟨ek, ec'⟩ | ⟨nk, gk⟩
      · exact hjk (ej.trans ek.symm)
      · rw [if_pos ej] at e1
        rw [if_neg nk] at e2
        subst ec
        exact hown xs a h1 (Option.some.inj e1) ⟨k, c2, ys, gk, h2, e2⟩
    · rw [if_neg nj] at e1
      rcases list_set_get hk with ⟨ek, ec⟩ | ⟨nk, gk⟩
      · rw [if_pos ek] at e2
        subst ec
        exact hown ys a h2 (Option.some.inj e2) ⟨j, c1, xs, gj, h1, e1⟩
      · rw [if_neg nk] at e2
        exact env.apart j k c1 c2 xs ys a hjk gj gk h1 h2 e1 e2
/-- a store's step: what was own stays so, or was new -/
theorem Step.setC {i : Nat} {c : Cell} {v : V} (s : Step σ Δ F H σ1 Δ1 F1 H1) (hl : σ1.length = Δ1.length) (hi : canSet Δ1 i = true) (hown : ∀ xs, c.list? = some xs → ∃ a, v = .ref a ∧ (Own σ Δ a ∨ H a = none)) (hpa : ∀ xs, c ≠ .pa xs) :
    Step σ Δ F H (σ1.set i (some v)) (Δ1.set i c) F1 H1 := by
  have hs : i < σ1.length := by rw [hl]; exact canSet_lt hi
  refine ⟨s.fr, s.kp, s.fn, fun b ⟨j, c', ys, hj, h1, e⟩ => ?_, fun j ys hj => ?_, fun j ys hj => ?_, s.th⟩
  · rw [set_slot hs] at e
    rcases list_set_get hj with ⟨rfl, rfl⟩ | ⟨nj, hj⟩
    · rw [if_pos rfl] at e
      obtain ⟨a, e1, e2⟩ := hown ys h1
      rw [e1] at e; cases e; exact e2
    · rw [if_neg nj] at e
      exact s.ow b ⟨j, c', ys, hj, h1, e⟩
  · obtain ⟨xs', e1, e2⟩ := s.pa j ys hj
    have nj : j ≠ i := fun z => by subst z; exact absurd e1 (canSet_pa hi)
    exact ⟨xs', by rw [List.getElem?_set_ne (Ne.symm nj)]; exact e1, by rw [set_slot hs, if_neg nj]; exact e2⟩
  · rcases list_set_get hj with ⟨rfl, e⟩ | ⟨nj, hj⟩
    · exact absurd e.symm (hpa ys)
    · exact s.pb j ys hj
def setM (i : Nat) (d : D) (Δ : DEnv) : SRes := if canSet Δ i = true then .nx (Δ.set i (.va d)) else .stuck
def setO (i : Nat) (ds : List D) (Δ : DEnv) : SRes := if canSet Δ i = true then .nx (Δ.set i (.ow ds)) else .stuck

variable {e : Expr} {me : DEnv → Res D} {mf : DEnv → Res (List D)} {pos pos' : Pos} {x : Str} {i : Nat} {st : Stmt} {sts : List Stmt} {m n : DEnv → SRes}
theorem snd_set {te : TE} (h : Snd L W te me) : SndS L W (tAsg te (gName i)) (fun Δ => (me Δ).s fun d Δ1 => setM i d Δ1) := by
  intro σ Δ F H D env w
  refine h σ Δ F H _ env ((Want.ofS w).mono fun d Δ1 F1 H1 env1 w1 v r => ?_)
  unfold setM at w1
  split at w1
  · rename_i hi
    exact w1 _ F1 H1 (env1.setC hi ⟨v, rfl, r⟩ fun xs a h _ => by cases h) (Step.setC .refl env1.len hi (fun xs h => by cases h) fun xs h => by cases h)
  · exact w1.elim
theorem snd_setF {te : TE} (h : SndF L W te mf) : SndS L W (tAsg te (gName i)) (fun Δ => (mf Δ).s fun d Δ1 => setO i d Δ1) := by
  intro σ Δ F H D env w
  refine h σ Δ F H _ env ?_
  replace w : WantS L W σ Δ F H ((mf Δ).s fun d Δ1 => setO i d Δ1) D := w
  cases q : mf Δ with
  | stuck => rw [q] at w; exact w
  | ex x Δ' => rw [q] at w; exact fun c dd F1 H1 e s xo => w σ c dd F1 H1 e s xo
  | ok ds Δ1 =>
    rw [q] at w
    intro F1 H1 env1 st1 p vs hp ho hf hh rs
    replace w : WantS L W σ Δ F H (setO i ds Δ1) D := w
    unfold setO at w
    split at w
    · rename_i hi
      refine w _ F1 H1 (env1.setC hi ⟨p, vs, rfl, hh, hf, rs⟩ fun xs a _ e o => ?_) (st1.setC env1.len hi (fun xs h => ⟨p, rfl, .inr hp⟩) fun xs h => by cases h)
      cases e; exact ho o
    · exact w.elim
theorem s_set (hN : X.N.Nodup) (hi : X.N[i]? = some x) (hx : Loc X.env.scope x) (h : DE X L W e me) (hs : swapsWith e (some (.Name x pos')) pos.line X.env = pure false := by rfl) (hf : X.fn x = true ∨ X.env.scope.names.lookup x = some .local := by first | exact .inl rfl | exact .inr rfl | assumption) :
    DS X L W (.Assign [.Name x pos'] e pos) (fun Δ => (me Δ).s fun d Δ1 => setM i d Δ1) := ⟨let ⟨_, p1, s1⟩ := h.ex; ⟨_, ps_set hN hi hx p1 hs hf, snd_set s1⟩⟩
theorem s_setF (hN : X.N.Nodup) (hi : X.N[i]? = some x) (hx : Loc X.env.scope x) (h : DF X L W e mf) (hs : swapsWith e (some (.Name x pos')) pos.line X.env = pure false := by rfl) (hf : X.fn x = true ∨ X.env.scope.names.lookup x = some .local := by first | exact .inl rfl | exact .inr rfl | assumption) :
    DS X L W (.Assign [.Name x pos'] e pos) (fun Δ => (mf Δ).s fun d Δ1 => setO i d Δ1) := ⟨let ⟨_, p1, s1⟩ := h.ex; ⟨_, ps_set hN hi hx p1 hs hf, snd_setF s1⟩⟩

/-! ### blocks and plain statements -/
theorem ss_nil : DSs X L W [] .nx := ⟨_, pss_nil, fun σ Δ F H D env w => w σ F H env .refl⟩
theorem ss_cons (h : DS X L W st m) (hs : DSs X L W sts n) : DSs X L W (st :: sts) (fun Δ => (m Δ).seq n) := by
  obtain ⟨_, p1, s1⟩ := h.ex
  obtain ⟨_, p2, s2⟩ := hs.ex
  exact ⟨_, pss_cons p1 p2, fun σ Δ F H D env w => s1 σ Δ F H _ env (w.seq fun σ1 Δ1 F1 H1 e1 w1 => s2 σ1 Δ1 F1 H1 D e1 w1)⟩
theorem ss_one (h : DS X L W st m) : DSs X L W [st] m := ⟨let ⟨_, p1, s1⟩ := h.ex; ⟨_, pss_one p1, s1⟩⟩
theorem s_pass : DS X L W (.Pass pos) .nx := ⟨_, ps_pass, fun σ Δ F H D env w => w σ F H env .refl⟩
theorem s_break : DS X L W (.Break pos) .bk := ⟨_, ps_break, fun σ Δ F H D env w => w σ F H env .refl⟩
theorem s_continue : DS X L W (.Continue pos) .ct := ⟨_, ps_continue, fun σ Δ F H D env w => w σ F H env .refl⟩
theorem s_expr (h : DE X L W e me) (hs : swapsWith e none pos.line X.env = pure false := by rfl) : DS X L W (.Expr e pos) (fun Δ => (me Δ).s fun _ Δ1 => .nx Δ1) := by
  obtain ⟨_, p1, s1⟩ := h.ex
  exact ⟨_, ps_expr p1 hs, fun σ Δ F H D env w => s1 σ Δ F H _ env ((Want.ofS w).mono fun d Δ1 F1 H1 env1 w1 v r => w1 σ F1 H1 env1 .refl)⟩
theorem s_ret (h : DE X L W e me) : DS X L W (.Return (some e) pos) (fun Δ => (me Δ).s .rt) := by
  obtain ⟨_, p1, s1⟩ := h.ex
  exact ⟨_, ps_ret p1, fun σ Δ F H D env w => s1 σ Δ F H _ env ((Want.ofS w).mono fun d Δ1 F1 H1 env1 w1 v r => w1 σ v F1 H1 env1 .refl r)⟩
theorem s_retN : DS X L W (.Return none pos) (.rt .non) := ⟨_, ps_retN, fun σ Δ F H D env w => w σ .non F H env .refl .non⟩
theorem own_pa {p : Addr} (env : EnvOk L F σ Δ H) (h : ¬ Own σ Δ p) (j : Nat) (ys : List D) (hj : Δ[j]? = some (Cell.pa ys)) : slot σ j ≠ some (.ref p) := fun e => h ⟨j, _, ys, hj, rfl, e⟩
theorem s_retF (h : DF X L W e mf) : DS X L W (.Return (some e) pos) (fun Δ => (mf Δ).s .rf) := by
  obtain ⟨_, p1, s1⟩ := h.ex
  refine ⟨_, ps_ret p1, fun σ Δ F H D env w => s1 σ Δ F H _ env ?_⟩
  replace w : WantS L W σ Δ F H ((mf Δ).s .rf) D := w
  cases q : mf Δ with
  | stuck => rw [q] at w; exact w
  | ex x Δ' => rw [q] at w; exact fun c dd F1 H1 e s xo => w σ c dd F1 H1 e s xo
  | ok ds Δ1 =>
    rw [q] at w
    exact fun F1 H1 env1 st1 p vs hp ho hf hh rs => w σ p vs F1 H1 env1 st1 (.inl hp) hf hh (own_pa env1 ho) rs
/-- return of an own list -/
def retO (i : Nat) : DEnv → SRes := fun Δ => match Δ[i]? with
  | some (.ow xs) => .rf xs Δ
  | _ => .stuck
theorem s_retO (hN : X.N[i]? = some x) (hv : Vis X.env.scope x) (hd : (x == ("__debug__" : Str)) = false) (hcd : (x == ("__classdict__" : Str)) = false) : DS X L W (.Return (some (.Name x pos')) pos) (retO i) := by
  refine ⟨_, ps_ret (pe_var hN hv hd hcd), fun σ Δ F H D env w => ?_⟩
  unfold retO at w
  split at w
  · rename_i xs q
    obtain ⟨a, vs, e1, e2, e3, e4⟩ := env.cells i _ q
    refine ⟨.ref a, slot_some e1, w σ a vs F H env .refl (.inr ⟨i, _, xs, q, rfl, e1⟩) e3 e2 (fun j ys hj e => ?_) e4⟩
    have nj : i ≠ j := fun z => by subst z; rw [q] at hj; cases hj
    exact env.apart i j _ _ xs ys a nj q hj rfl rfl e1 e
  · exact w.elim
theorem s_if {c : Expr} {a b : List Stmt} {mt : DEnv → Res Bool} (hc : DT X L W c mt) (ha : DSs X L W a m) (hb : DSs X L W b n) : DS X L W (.If c a b pos) (fun Δ => (mt Δ).s fun k Δ1 => if k = true then m Δ1 else n Δ1) := by
  obtain ⟨_, p0, s0⟩ := hc.ex
  obtain ⟨_, p1, s1⟩ := ha.ex
  obtain ⟨_, p2, s2⟩ := hb.ex
  refine ⟨_, ps_if p0 p1 p2, fun σ Δ F H D env w => s0 σ Δ F H _ env ((Want.ofS w).mono fun k Δ1 F1 H1 env1 w1 => ?_)⟩
  cases k with
  | true => exact s1 σ Δ1 F1 H1 D env1 w1
  | false => exact s2 σ Δ1 F1 H1 D env1 w1

/-! ### targets -/
def SndG (L : Lx) (g : TG) (tgt : D → DEnv → Option DEnv) : Prop := ∀ (σ : L2.St) (Δ Δ' : DEnv) (F H : Hp) (v : V) (d : D) (Q : L2.St → Hp → Prop), EnvOk L F σ Δ H → Rep L.K F v d → tgt d Δ = some Δ' →
  (∀ σ', EnvOk L F σ' Δ' H → Step σ Δ F H σ' Δ' F H → Q σ' H) → g v σ H Q
def SndGs (L : Lx) (g : TGs) (tgt : List D → DEnv → Option DEnv) : Prop := ∀ (σ : L2.St) (Δ Δ' : DEnv) (F H : Hp) (vs : List V) (ds : List D) (Q : L2.St → Hp → Prop), EnvOk L F σ Δ H → Reps L.K F vs ds → tgt ds Δ = some Δ' →
  (∀ σ', EnvOk L F σ' Δ' H → Step σ Δ F H σ' Δ' F H → Q σ' H) → g vs σ H Q
structure DG (X : Cx) (L : Lx) (tg : Expr) (tgt : D → DEnv → Option DEnv) : Prop where ex : ∃ g, PG X tg g ∧ SndG L g tgt
structure DGs (X : Cx) (L : Lx) (tgs : List Expr) (tgt : List D → DEnv → Option DEnv) : Prop where ex : ∃ g, PGs X tgs g ∧ SndGs L g tgt
def tgN (i : Nat) : D → DEnv → Option DEnv := fun d Δ => if canSet Δ i = true then some (Δ.set i (.va d)) else none
theorem g_name (hN : X.N.Nodup) (hi : X.N[i]? = some x) (hx : Loc X.env.scope x) (hf : X.fn x = true ∨ X.env.scope.names.lookup x = some .local := by first | exact .inl rfl | exact .inr rfl | assumption) : DG X L (.Name x pos) (tgN i) := by
  refine ⟨_, pg_name hN hi hx hf, fun σ Δ Δ' F H v d Q env r ht q => ?_⟩
  unfold tgN at ht
  split at ht
  · rename_i hi; cases ht
    exact q _ (env.setC hi ⟨v, rfl, r⟩ fun xs a h _ => by cases h) (Step.setC .refl env.len hi (fun xs h => by cases h) fun xs h => by cases h)
  · cases ht
def tgsNil : List D → DEnv → Option DEnv := fun ds Δ => match ds with
  | [] => some Δ
  | _ => none
def tgsCons (t : D → DEnv → Option DEnv) (u : List D → DEnv → Option DEnv) : List D → DEnv → Option DEnv := fun ds Δ => match ds with
  | d :: r => (t d Δ).bind (u r)
  | [] => none
theorem gs_nil : DGs X L [] tgsNil := by
  refine ⟨_, pgs_nil, fun σ Δ Δ' F H vs ds Q env r ht q => ?_⟩
  cases ds with
  | nil => cases ht; exact ⟨r.nil_inv, q σ env .refl⟩
  | cons d ds => cases ht
theorem gs_cons {tg : Expr} {tgs : List Expr} {t : D → DEnv → Option DEnv} {u : List D → DEnv → Option DEnv} (h : DG X L tg t) (hs : DGs X L tgs u) (hst : (assignEach (tg :: tgs) X.env).map (·.2) = assign tg X.env :: (assignEach tgs X.env).map (·.2) := by rfl) : DGs X L (tg :: tgs) (tgsCons t u) := by
  obtain ⟨g1, p1, s1⟩ := h.ex
  obtain ⟨g2, p2, s2⟩ := hs.ex
  refine ⟨_, pgs_cons p1 p2 hst, fun σ Δ Δ' F H vs ds Q env r ht q => ?_⟩
  cases ds with
  | nil => cases ht
  | cons d ds =>
    obtain ⟨Δ1, h1, h2⟩ := Option.bind_eq_some_iff.mp ht
    obtain ⟨v, ws, rfl, r1, r2⟩ := r.cons_inv
    exact ⟨v, ws, rfl, s1 σ Δ Δ1 F H v d _ env r1 h1 fun σ1 env1 st1 => s2 σ1 Δ1 Δ' F H ws ds Q env1 r2 h2 fun σ2 env2 st2 => q σ2 env2 (st1.trans st2)⟩
def tgT (n : Nat) (u : List D → DEnv → Option DEnv) : D → DEnv → Option DEnv := fun d Δ => match d with
  | .tup ds => if ds.length = n then u ds Δ else none
  | _ => none
theorem g_tup {tgs : List Expr} {k : Nat} {u : List D → DEnv → Option DEnv} {n : Nat} (h : DGs X L tgs u) (hc : X.calm = true := by rfl) (hn : (assignEach tgs X.env).length = n := by rfl) (hst : (assignEach tgs X.env).findIdx? (·.1) = none := by rfl) (hk : L.K = X.K := by rfl) :
    DG X L (.Tuple tgs k pos) (tgT n u) := by
  obtain ⟨g1, p1, s1⟩ := h.ex
  refine ⟨_, pg_tup hc p1 hn hst, fun σ Δ Δ' F H v d Q env r ht q => ?_⟩
  unfold tgT at ht
  split at ht
  · rename_i ds
    split at ht
    · rename_i hl
      obtain ⟨a, vs, rfl, h1, h2⟩ := rep_ref_tup r
      exact ⟨a, vs, rfl, hk ▸ env.ex.st h1, by rw [h2.1]; exact hl, s1 σ Δ Δ' F H vs ds Q env h2 ht q⟩
    · cases ht
  · cases ht
def asgM (me : DEnv → Res D) (tgt : D → DEnv → Option DEnv) : DEnv → SRes := fun Δ => (me Δ).s fun d Δ1 => match tgt d Δ1 with
  | some Δ2 => .nx Δ2
  | none => .stuck
theorem s_asg {tg : Expr} {tgt : D → DEnv → Option DEnv} (h : DE X L W e me) (hg : DG X L tg tgt) (hs : swapsWithSole [tg] e pos.line X.env = pure false := by rfl) (hw : swappedStores [tg] e X.env = pure none := by rfl)
    (h1 : (assignEach [tg] X.env).map (·.2) = [assign tg X.env] := by rfl) : DS X L W (.Assign [tg] e pos) (asgM me tgt) := by
  obtain ⟨_, p1, s1⟩ := h.ex
  obtain ⟨_, p2, s2⟩ := hg.ex
  refine ⟨_, ps_asg p1 p2 hs hw h1, fun σ Δ F H D env w => s1 σ Δ F H _ env ((Want.ofS w).mono fun d Δ1 F1 H1 env1 w1 v r => ?_)⟩
  cases q : tgt d Δ1 with
  | none => rw [q] at w1; exact w1.elim
  | some Δ2 => rw [q] at w1; exact s2 σ Δ1 Δ2 F1 H1 v d D.nx env1 r q fun σ2 env2 st2 => w1 σ2 F1 H1 env2 st2

/-! ### what is walked -/
/-- J gives out the items ds, one after the other -/
def ItOk (L : Lx) (F1 : Hp) (J : It) (ds : List D) : Prop := ∀ (i : Nat) (F' H' : Hp), Ex F1 F' → Ex F' H' →
  (∀ d, ds[i]? = some d → J.go i H' ∧ ∀ x H'', J.yld i H' x H'' → ∃ F'', Gro F' H' F'' H'' ∧ Rep L.K F'' x d) ∧ (ds.length ≤ i → J.stop i H')
def SndI (L : Lx) (W : WX) (wi : TI) (m : DEnv → Res (List D)) : Prop := ∀ (σ : L2.St) (Δ : DEnv) (F H : Hp) (R : It → Hp → Prop), EnvOk L F σ Δ H →
  Want L W σ Δ F H (m Δ) (fun ds _ F' H' => ∀ J, ItOk L F' J ds → R J H') → wi σ H R
structure DI (X : Cx) (L : Lx) (W : WX) (tg iter : Expr) (m : DEnv → Res (List D)) : Prop where ex : ∃ wi, PI X tg iter wi ∧ SndI L W wi m
theorem pi_or {tg iter : Expr} {wi wj : TI} (h : PI X tg iter wi) (h' : PI X tg iter wj) : PI X tg iter (fun σ H R => wi σ H R ∨ wj σ H R) := ⟨fun pins s σ H R I w => w.elim (h.run pins s σ H R I) (h'.run pins s σ H R I)⟩
/-- a frozen list or tuple -/
def seqM (m : DEnv → Res D) : DEnv → Res (List D) := fun Δ => (m Δ).bind fun d Δ1 => match d with
  | .lst ds => .ok ds Δ1
  | .tup ds => .ok ds Δ1
  | _ => .stuck
theorem i_seq {tg : Expr} (h : DE X L W e me) (hk : L.K = X.K := by rfl) : DI X L W tg e (seqM me) := by
  obtain ⟨te, p1, s1⟩ := h.ex
  refine ⟨_, pi_or (pi_list p1) (pi_tup p1), fun σ Δ F H R env w => ?_⟩
  replace w : Want L W σ Δ F H (seqM me Δ) _ := w
  unfold seqM at w
  -- which of the two is known ahead
  cases q : me Δ with
  | stuck => rw [q] at w; exact w.elim
  | ex x Δ' =>
    rw [q] at w
    exact .inl (s1 σ Δ F H _ env (by rw [q]; exact w))
  | ok d Δ1 =>
    rw [q] at w
    cases d with
    | lst ds =>
      refine .inl (s1 σ Δ F H _ env ?_)
      rw [q]
      intro F1 H1 env1 st1 v r
      obtain ⟨a, vs, rfl, h1, h2⟩ := rep_ref_lst r
      refine ⟨a, rfl, ⟨vs, SqL.of (env1.ex _ _ h1)⟩, w F1 H1 env1 st1 _ fun i F' H' e1 e2 => ⟨fun d hd => ?_, fun hl => ⟨vs, SqL.of ((e1.trans e2) _ _ h1), by rw [h2.1]; exact hl⟩⟩⟩
      obtain ⟨u, hu, ru⟩ := h2.get hd
      refine ⟨⟨vs, u, SqL.of ((e1.trans e2) _ _ h1), hu⟩, fun x H'' y => ?_⟩
      obtain ⟨rfl, y⟩ := y
      have := y vs (SqL.of ((e1.trans e2) _ _ h1))
      rw [hu] at this; cases this
      exact ⟨F', .refl e2, ru.mono e1⟩
    | tup ds =>
      refine .inr (s1 σ Δ F H _ env ?_)
      rw [q]
      intro F1 H1 env1 st1 v r
      obtain ⟨a, vs, rfl, h1, h2⟩ := rep_ref_tup r
      refine ⟨a, rfl, ⟨vs, hk ▸ env1.ex.st h1⟩, w F1 H1 env1 st1 _ fun i F' H' e1 e2 => ⟨fun d hd => ?_, fun hl => ⟨vs, hk ▸ (e1.trans e2).st h1, by rw [h2.1]; exact hl⟩⟩⟩
      obtain ⟨u, hu, ru⟩ := h2.get hd
      refine ⟨⟨vs, u, hk ▸ (e1.trans e2).st h1, hu⟩, fun x H'' y => ?_⟩
      obtain ⟨rfl, y⟩ := y
      have := y vs (hk ▸ (e1.trans e2).st h1)
      rw [hu] at this; cases this
      exact ⟨F', .refl e2, ru.mono e1⟩
    | _ => exact w.elim
/-- range -/
def rangeL (lo : Int) : Nat → List D := fun n => (List.range n).map fun i => .int (lo + (i : Nat))
theorem itok_range {lo : Int} {n : Nat} : ItOk L F (Itr lo n) (rangeL lo n) := by
  intro i F' H' e1 e2
  refine ⟨fun d hd => ?_, fun hl => ?_⟩
  · unfold rangeL at hd
    rw [List.getElem?_map] at hd
    cases q : (List.range n)[i]? with
    | none => rw [q] at hd; cases hd
    | some j =>
      rw [q] at hd
      cases hd
      have hi : i < n := by have := (List.getElem?_eq_some_iff.mp q).1; simpa using this
      have hj : j = i := by rw [List.getElem?_range hi] at q; cases q; rfl
      subst hj
      exact ⟨hi, fun x H'' ⟨e3, e4⟩ => by subst e3 e4; exact ⟨F', .refl e2, .int _⟩⟩
  · show n ≤ i
    unfold rangeL at hl
    simpa using hl
def range1M (m : DEnv → Res D) : DEnv → Res (List D) := fun Δ => (m Δ).bind fun d Δ1 => match d with
  | .int j => gd (decide (-4611686018427387904 ≤ j ∧ j < 4611686018427387904)) (.ok (rangeL 0 j.toNat) Δ1)
  | _ => .stuck
theorem i_range1 {tg a : Expr} {ma : DEnv → Res D} {p : Pos} (hg : Gl X "range") (hm : X.mg "range" = none) (h : DE X L W a ma) (hs : starEach [a] X.env = [(false, eval a X.env)] := by rfl) : DI X L W tg (.Call (.Name "range" p) [a] [] pos) (range1M ma) := by
  obtain ⟨te, p1, s1⟩ := h.ex
  refine ⟨_, pi_range1 hg hm (pa_cons p1 pa_nil (hs.trans rfl)) hs, fun σ Δ F H R env w => ?_⟩
  refine s1 σ Δ F H _ env (w.bind.mono fun d Δ1 F1 H1 env1 w1 v r => ?_)
  cases d with
  | int j =>
    cases r
    replace w1 : Want L W σ Δ1 F1 H1 (gd (decide (-4611686018427387904 ≤ j ∧ j < 4611686018427387904)) (.ok (rangeL 0 j.toNat) Δ1)) _ := w1
    unfold gd at w1
    split at w1
    · rename_i hb
      have hb := of_decide_eq_true hb
      exact ⟨j, rfl, by omega, by omega, w1 F1 H1 env1 .refl _ itok_range⟩
    · exact w1.elim
  | _ => exact w1.elim
def range2M (m n : DEnv → Res D) : DEnv → Res (List D) := fun Δ => (m Δ).bind fun d Δ1 => (n Δ1).bind fun d2 Δ2 => match d, d2 with
  | .int i, .int j => gd (decide (-4611686018427387904 ≤ i ∧ i < 4611686018427387904 ∧ -4611686018427387904 ≤ j ∧ j < 4611686018427387904)) (.ok (rangeL i (j - i).toNat) Δ2)
  | _, _ => .stuck
theorem i_range2 {tg a b : Expr} {ma mb : DEnv → Res D} {p : Pos} (hg : Gl X "range") (hm : X.mg "range" = none) (h : DE X L W a ma) (h' : DE X L W b mb) (hs : starEach [a, b] X.env = [(false, eval a X.env), (false, eval b X.env)] := by rfl) (hs2 : starEach [b] X.env = [(false, eval b X.env)] := by rfl) :
    DI X L W tg (.Call (.Name "range" p) [a, b] [] pos) (range2M ma mb) := by
  obtain ⟨te, p1, s1⟩ := h.ex
  obtain ⟨te2, p2, s2⟩ := h'.ex
  refine ⟨_, pi_range2 hg hm (pa_cons p1 (pa_cons p2 pa_nil (hs2.trans rfl)) (by rw [hs, hs2])) hs hs2, fun σ Δ F H R env w => ?_⟩
  refine s1 σ Δ F H _ env (w.bind.mono fun d Δ1 F1 H1 env1 w1 v r => ?_)
  refine s2 σ Δ1 F1 H1 _ env1 (w1.bind.mono fun d2 Δ2 F2 H2 env2 w2 v2 r2 => ?_)
  cases d with
  | int i =>
    cases d2 with
    | int j =>
      cases r; cases r2
      replace w2 : Want L W σ Δ2 F2 H2 (gd (decide (-4611686018427387904 ≤ i ∧ i < 4611686018427387904 ∧ -4611686018427387904 ≤ j ∧ j < 4611686018427387904)) (.ok (rangeL i (j - i).toNat) Δ2)) _ := w2
      unfold gd at w2
      split at w2
      · rename_i hb
        have hb := of_decide_eq_true hb
        exact ⟨i, j, rfl, by omega, w2 F2 H2 env2 .refl _ itok_range⟩
      · exact w2.elim
    | _ => exact w2.elim
  | _ => exact w2.elim

/-! ### for, while -/
def forM (tgt : D → DEnv → Option DEnv) (body : DEnv → SRes) : List D → DEnv → SRes
  | [], Δ => .nx Δ
  | d :: ds, Δ => match tgt d Δ with
    | none => .stuck
    | some Δ1 => (body Δ1).loop (forM tgt body ds)
theorem s_for {tg iter : Expr} {body : List Stmt} {mi : DEnv → Res (List D)} {tgt : D → DEnv → Option DEnv} (hp : PassesOwn (model X.prog X.w) X.A X.env X.xe) (hi : DI X L W tg iter mi) (hg : DG X L tg tgt) (hb : DSs X L W body m)
    (hc : X.calm = true := by rfl) (hs : ∀ x, foldedSetIterable iter X.env x = pure x := by intro _; rfl) : DS X L W (.For tg iter body [] pos) (fun Δ => (mi Δ).s (forM tgt m)) := by
  obtain ⟨wi, p1, s1⟩ := hi.ex
  obtain ⟨g, p2, s2⟩ := hg.ex
  obtain ⟨tb, p3, s3⟩ := hb.ex
  refine ⟨_, ps_for hp hc p1 p2 p3 hs, fun σ Δ F H D env w => ?_⟩
  refine s1 σ Δ F H _ env ((Want.ofS w).mono fun ds Δ1 F1 H1 env1 w1 J hJ => ?_)
  refine ⟨fun i k σ' H' => k = ds.length - i ∧ i ≤ ds.length ∧ ∃ Δ' F', Ex F1 F' ∧ EnvOk L F' σ' Δ' H' ∧ WantS L W σ' Δ' F' H' (forM tgt m (ds.drop i) Δ') D, ⟨_, rfl, Nat.zero_le _, Δ1, F1, Ex.refl _, env1, w1⟩, ?_⟩
  rintro i k σ' H' ⟨rfl, hi, Δ', F', ex, env', w'⟩
  obtain ⟨j1, j2⟩ := hJ i F' H' ex env'.ex
  by_cases hlt : i < ds.length
  · have hd : ds[i]? = some ds[i] := List.getElem?_eq_getElem hlt
    obtain ⟨go, yl⟩ := j1 _ hd
    refine .inr ⟨go, fun σ2 H2 => ∃ Δ2 F2, Ex F1 F2 ∧ EnvOk L F2 σ2 Δ2 H2 ∧ WantS L W σ2 Δ2 F2 H2 (forM tgt m (ds.drop (i + 1)) Δ2) D, fun σ2 H2 q => ⟨_, by omega, rfl, hlt, q⟩, fun x H'' y => ?_⟩
    obtain ⟨F'', gr, rx⟩ := yl x H'' y
    have env2 := env'.gro gr
    have w2 := w'.later (Step.gro gr)
    rw [List.drop_eq_getElem_cons hlt] at w2
    unfold forM at w2
    cases qt : tgt ds[i] Δ' with
    | none => rw [qt] at w2; exact w2.elim
    | some Δ3 =>
      rw [qt] at w2
      refine s2 σ' Δ' Δ3 F'' H'' x _ _ env2 rx qt fun σ3 env3 st3 => s3 σ3 Δ3 F'' H'' _ env3 ?_
      exact (w2.later st3).loop fun σ4 Δ4 F4 H4 env4 st4 w4 => ⟨Δ4, F4, (ex.trans gr.f).trans st4.fr, env4, w4⟩
  · have e : i = ds.length := by omega
    subst e
    rw [List.drop_length] at w'
    exact .inl ⟨j2 (Nat.le_refl _), w' σ' F' H' env' .refl⟩
def whileM (c : DEnv → Res Bool) (body : DEnv → SRes) : Nat → DEnv → SRes
  | 0, _ => .stuck
  | n + 1, Δ => (c Δ).s fun b Δ1 => if b = true then (body Δ1).loop (whileM c body n) else .nx Δ1
theorem s_while {c : Expr} {body : List Stmt} {mt : DEnv → Res Bool} {n : Nat} (hp : PassesOwn (model X.prog X.w) X.A X.env X.xe) (hc : DT X L W c mt) (hb : DSs X L W body m) : DS X L W (.While c body [] pos) (whileM mt m n) := by
  obtain ⟨tc, p1, s1⟩ := hc.ex
  obtain ⟨tb, p2, s2⟩ := hb.ex
  refine ⟨_, ps_while hp p1 p2, fun σ Δ F H D env w => ?_⟩
  refine ⟨fun k σ' H' => ∃ Δ' F', EnvOk L F' σ' Δ' H' ∧ WantS L W σ' Δ' F' H' (whileM mt m k Δ') D, ⟨n, Δ, F, env, w⟩, ?_⟩
  rintro k σ' H' ⟨Δ', F', env', w'⟩
  cases k with
  | zero => exact w'.elim
  | succ k =>
    refine s1 σ' Δ' F' H' _ env' ((Want.ofS w').mono fun b Δ1 F1 H1 env1 w1 => ?_)
    cases b with
    | true =>
      rw [if_pos rfl]
      refine ⟨fun σ2 H2 => ∃ Δ2 F2, EnvOk L F2 σ2 Δ2 H2 ∧ WantS L W σ2 Δ2 F2 H2 (whileM mt m k Δ2) D, fun σ2 H2 q => ⟨k, Nat.lt_succ_self k, q⟩, s2 σ' Δ1 F1 H1 _ env1 ?_⟩
      exact WantS.loop w1 fun σ2 Δ2 F2 H2 env2 _ w2 => ⟨Δ2, F2, env2, w2⟩
    | false => exact w1 σ' F1 H1 env1 .refl
end
end KL
/-! KL, part f: own lists changed, slices, comprehensions, calls of defs. -/
namespace KL
open PySem L2

def getL (Δ : DEnv) (i : Nat) : Option (List D) := (Δ[i]?).bind Cell.list?
def setL (Δ : DEnv) (i : Nat) (xs : List D) : DEnv := match Δ[i]? with
  | some (.ow _) => Δ.set i (.ow xs)
  | some (.pa _) => Δ.set i (.pa xs)
  | _ => Δ
section
variable {X : Cx} {L : Lx} {W : WX} {σ σ' σ1 : L2.St} {Δ Δ' Δ1 : DEnv} {F F' F1 H H' H1 : Hp} {E : Ends} {e : Expr} {es : List Expr} {me : DEnv → Res D} {mf : DEnv → Res (List D)} {pos pos' p : Pos} {x : Str} {i : Nat}
theorem EnvOk.getL {xs : List D} (env : EnvOk L F σ Δ H) (h : getL Δ i = some xs) : ∃ a vs, slot σ i = some (.ref a) ∧ H a = some (.lst vs) ∧ F a = none ∧ Reps L.K F vs xs := by
  obtain ⟨c, h1, h2⟩ := Option.bind_eq_some_iff.mp h
  exact (env.cells i c h1).own h2
theorem EnvOk.mut {xs ys : List D} {a : Addr} {vs ws : List V} (env : EnvOk L F σ Δ H) (h : KL.getL Δ i = some xs) (hs : slot σ i = some (.ref a)) (ha : H a = some (.lst vs)) (hf : F a = none) (rs : Reps L.K F ws ys) :
    EnvOk L F σ (setL Δ i ys) (upd H a (.lst ws)) ∧ Step σ Δ F H σ (setL Δ i ys) F (upd H a (.lst ws)) := by
  obtain ⟨c, h1, h2⟩ := Option.bind_eq_some_iff.mp h
  obtain ⟨c', hc', hl', hset, hpa⟩ : ∃ c', setL Δ i ys = Δ.set i c' ∧ c'.list? = some ys ∧ CellOk L F (upd H a (.lst ws)) (slot σ i) c' ∧ (∀ zs, c' = .pa zs ↔ (zs = ys ∧ ∃ us, c = .pa us)) := by
    unfold setL; rw [h1]
    cases c with
    | ow us => exact ⟨.ow ys, rfl, rfl, ⟨a, ws, hs, upd_same, hf, rs⟩, fun zs => ⟨fun q => (by cases q), fun q => (by obtain ⟨_, us, q⟩ := q; cases q)⟩⟩
    | pa us => exact ⟨.pa ys, rfl, rfl, ⟨a, ws, hs, upd_same, hf, rs⟩, fun zs => ⟨fun q => by cases q; exact ⟨rfl, us, rfl⟩, fun q => by rw [q.1]⟩⟩
    | _ => cases h2
  rw [hc']
  have own : Own σ Δ a := ⟨i, c, xs, h1, h2, hs⟩
  refine ⟨⟨fun b o q => ?_, by rw [List.length_set]; exact env.len, fun j cj hj => ?_, fun j k c1 c2 as bs b hjk hj hk q1 q2 e1 => ?_⟩, ?_⟩
  · rw [upd_ne (fun z => by rw [z, hf] at q; cases q)]; exact env.ex b o q
  · rcases list_set_get hj with ⟨rfl, rfl⟩ | ⟨nj, hj⟩
    · exact hset
    · have k := env.cells j cj hj
      have keep : ∀ us, cj.list? = some us → (∃ b ws', slot σ j = some (.ref b) ∧ H b = some (.lst ws') ∧ F b = none ∧ Reps L.K F ws' us) → ∃ b ws', slot σ j = some (.ref b) ∧ upd H a (.lst ws) b = some (.lst ws') ∧ F b = none ∧ Reps L.K F ws' us := by
        rintro us hu ⟨b, ws', g1, g2, g3, g4⟩
        refine ⟨b, ws', g1, ?_, g3, g4⟩
        rw [upd_ne (fun z => env.apart i j c cj xs us a (Ne.symm nj) h1 hj h2 hu hs (by rw [← z]; exact g1))]; exact g2
      cases cj with
      | no => trivial
      | va d => exact k
      | ow us => exact keep us rfl k
      | pa us => exact keep us rfl k
      | xc x => exact k
  · have back : ∀ (j : Nat) (cj : Cell) (as : List D), (Δ.set i c')[j]? = some cj → cj.list? = some as → ∃ c0 as0, Δ[j]? = some c0 ∧ c0.list? = some as0 := fun j cj as hj q => by
      rcases list_set_get hj with ⟨ej, _⟩ | ⟨nj, hj⟩
      · rw [ej]; exact ⟨c, xs, h1, h2⟩
      · exact ⟨cj, as, hj, q⟩
    obtain ⟨c3, a3, g1, g2⟩ := back j c1 as hj q1
    obtain ⟨c4, a4, g3, g4⟩ := back k c2 bs hk q2
    exact env.apart j k c3 c4 a3 a4 b hjk g1 g3 g2 g4 e1
  · refine ⟨Ex.refl F, fun b o q n => ?_, fun b o q => .inl q, fun b ⟨j, cj, as, hj, q, e1⟩ => .inl ?_, fun j zs hj => ?_, fun j zs hj => ?_, fun b o q => ?_⟩
    · rw [upd_ne (fun z => n (by rw [z]; exact own))]; exact q
    · rcases list_set_get hj with ⟨ej, _⟩ | ⟨nj, hj⟩
      · exact ⟨i, c, xs, h1, h2, by rw [← ej]; exact e1⟩
      · exact ⟨j, cj, as, hj, q, e1⟩
    · by_cases ej : j = i
      · subst ej
        rw [h1] at hj; cases hj
        refine ⟨ys, ?_, rfl⟩
        have hl : j < Δ.length := (List.getElem?_eq_some_iff.mp h1).1
        rw [List.getElem?_set_self hl, (hpa ys).mpr ⟨rfl, zs, rfl⟩]
      · exact ⟨zs, by rw [List.getElem?_set_ne (Ne.symm ej)]; exact hj, rfl⟩
    · rcases list_set_get hj with ⟨ej, q⟩ | ⟨nj, hj⟩
      · obtain ⟨_, us, e2⟩ := (hpa zs).mp q.symm
        rw [ej]; exact ⟨us, by rw [h1, e2]⟩
      · exact ⟨zs, hj⟩
    · by_cases ej : b = a
      · exact ⟨_, by rw [ej]; exact upd_same⟩
      · exact ⟨o, by rw [upd_ne ej]; exact q⟩
/-! ### methods of own lists -/
theorem tyV_own {xs : List D} (env : EnvOk L F σ Δ H) (h : getL Δ i = some xs) : ∃ a vs, slot σ i = some (.ref a) ∧ H a = some (.lst vs) ∧ F a = none ∧ Reps L.K F vs xs ∧ tyV L.K "list" (.ref a) H := by
  obtain ⟨a, vs, e1, e2, e3, e4⟩ := env.getL h
  exact ⟨a, vs, e1, e2, e3, e4, .inl ⟨rfl, vs, SqL.of e2⟩⟩
def appendM (i : Nat) (me : DEnv → Res D) : DEnv → Res D := fun Δ => match getL Δ i with
  | none => .stuck
  | some _ => (me Δ).bind fun d Δ1 => match getL Δ1 i with
    | none => .stuck
    | some xs => gd (decide (xs.length < 16777216)) (.ok .non (setL Δ1 i (xs ++ [d])))
theorem snd_append {te : TE} (h : Snd L W te me) : Snd L W (tBM L.K "list" rAppend (tVar i) (tCons te tNil)) (appendM i me) := by
  intro σ Δ F H Q env w
  unfold appendM at w
  cases q : getL Δ i with
  | none => rw [q] at w; exact w.elim
  | some ys =>
    rw [q] at w
    obtain ⟨a, us, e1, e2, e3, e4, ty⟩ := tyV_own env q
    refine ⟨.ref a, slot_some e1, ty, h σ Δ F H _ env (w.bind.mono fun d Δ1 F1 H1 env1 w1 v r => ?_)⟩
    cases q1 : getL Δ1 i with
    | none => rw [q1] at w1; exact w1.elim
    | some xs =>
      rw [q1] at w1
      obtain ⟨b, vs, g1, g2, g3, g4⟩ := env1.getL q1
      rw [e1] at g1; cases g1
      replace w1 : Want L W σ Δ1 F1 H1 (gd (decide (xs.length < 16777216)) (.ok D.non (setL Δ1 i (xs ++ [d])))) _ := w1
      unfold gd at w1
      split at w1
      · rename_i hl
        obtain ⟨env2, st2⟩ := env1.mut q1 e1 g2 g3 (g4.append (.cons r .nil))
        exact ⟨a, vs, v, rfl, rfl, g2, by rw [line_eq, g4.1]; exact of_decide_eq_true hl, w1 F1 _ env2 st2 _ Rep.non⟩
      · exact w1.elim
theorem d_append {n : Str} {apos : Pos} (hnm : n = "append") (hN : X.N[i]? = some x) (hv : Vis X.env.scope x) (hd : (x == ("__debug__" : Str)) = false) (hcd : (x == ("__classdict__" : Str)) = false) (h : DE X L W e me)
    (hbase : attributeBase (.Name x p) n X.env (eval (.Name x p) X.env) = eval (.Name x p) X.env := by rfl)
    (hfew : ((backTo pos (starEach (e :: []) X.env)).all (fun x => !x.1) && (backToKw pos (keywordEach [] X.env)).all (fun x => x.1.isSome) && decide ((e :: []).length + ([] : List Keyword).length + (if ([] : List Keyword).isEmpty then 0 else 1) < 30)) = true := by rfl)
    (hline : (apos.endLine == pos.line) = true := by rfl) (hs : starEach (e :: []) X.env = (false, eval e X.env) :: starEach [] X.env := by rfl) (hplain : (backTo pos (starEach [] X.env)).any (·.1) = false := by rfl) (hk : L.K = X.K := by rfl) :
    DE X L W (.Call (.Attribute (.Name x p) n apos) [e] [] pos) (appendM i me) := by
  subst hnm
  obtain ⟨_, p1, s1⟩ := h.ex
  refine ⟨_, pe_bm PySem.F.plainAttrs_list PySem.F.slot_list_append PySem.F.type_list_append mt_append (pe_var hN hv hd hcd) (pa_cons p1 pa_nil hs) hbase hfew hline hs hplain, ?_⟩
  rw [← hk]; exact snd_append s1
/-- pop() -/
def popM (i : Nat) : DEnv → Res D := fun Δ => match getL Δ i with
  | none => .stuck
  | some xs => match xs.getLast? with
    | none => .stuck
    | some d => .ok d (setL Δ i xs.dropLast)
theorem snd_pop : Snd L W (tBM0 L.K "list" rPop (tVar i)) (popM i) := by
  intro σ Δ F H Q env w
  unfold popM at w
  cases q : getL Δ i with
  | none => rw [q] at w; exact w.elim
  | some xs =>
    rw [q] at w
    obtain ⟨a, vs, e1, e2, e3, e4, ty⟩ := tyV_own env q
    replace w : Want L W σ Δ F H (match xs.getLast? with | none => .stuck | some d => .ok d (setL Δ i xs.dropLast)) _ := w
    cases q1 : xs.getLast? with
    | none => rw [q1] at w; exact w.elim
    | some d =>
      rw [q1] at w
      rw [List.getLast?_eq_getElem?] at q1
      obtain ⟨v, g1, g2⟩ := e4.get q1
      obtain ⟨env2, st2⟩ := env.mut q e1 e2 e3 e4.dropLast
      exact ⟨.ref a, slot_some e1, ty, a, vs, v, rfl, rfl, e2, by rw [e4.1]; exact g1, w F _ env2 st2 v g2⟩
theorem d_pop {n : Str} {apos : Pos} (hnm : n = "pop") (hN : X.N[i]? = some x) (hv : Vis X.env.scope x) (hd : (x == ("__debug__" : Str)) = false) (hcd : (x == ("__classdict__" : Str)) = false)
    (hbase : attributeBase (.Name x p) n X.env (eval (.Name x p) X.env) = eval (.Name x p) X.env := by rfl) (hline : (apos.endLine == pos.line) = true := by rfl) (hk : L.K = X.K := by rfl) :
    DE X L W (.Call (.Attribute (.Name x p) n apos) [] [] pos) (popM i) := by
  subst hnm
  refine ⟨_, pe_bm0 PySem.F.plainAttrs_list PySem.F.slot_list_pop PySem.F.type_list_pop mt_pop (pe_var hN hv hd hcd) hbase hline, ?_⟩
  rw [← hk]; exact snd_pop
/-- reverse() -/
def reverseM (i : Nat) : DEnv → Res D := fun Δ => match getL Δ i with
  | none => .stuck
  | some xs => .ok .non (setL Δ i xs.reverse)
theorem snd_reverse : Snd L W (tBM0 L.K "list" rReverse (tVar i)) (reverseM i) := by
  intro σ Δ F H Q env w
  unfold reverseM at w
  cases q : getL Δ i with
  | none => rw [q] at w; exact w.elim
  | some xs =>
    rw [q] at w
    obtain ⟨a, vs, e1, e2, e3, e4, ty⟩ := tyV_own env q
    obtain ⟨env2, st2⟩ := env.mut q e1 e2 e3 e4.reverse
    exact ⟨.ref a, slot_some e1, ty, a, vs, rfl, rfl, e2, w F _ env2 st2 _ .non⟩
theorem d_reverse {n : Str} {apos : Pos} (hnm : n = "reverse") (hN : X.N[i]? = some x) (hv : Vis X.env.scope x) (hd : (x == ("__debug__" : Str)) = false) (hcd : (x == ("__classdict__" : Str)) = false)
    (hbase : attributeBase (.Name x p) n X.env (eval (.Name x p) X.env) = eval (.Name x p) X.env := by rfl) (hline : (apos.endLine == pos.line) = true := by rfl) (hk : L.K = X.K := by rfl) :
    DE X L W (.Call (.Attribute (.Name x p) n apos) [] [] pos) (reverseM i) := by
  subst hnm
  refine ⟨_, pe_bm0 PySem.F.plainAttrs_list PySem.F.slot_list_reverse PySem.F.type_list_reverse mt_reverse (pe_var hN hv hd hcd) hbase hline, ?_⟩
  rw [← hk]; exact snd_reverse

/-! ### slices -/
def SndO (L : Lx) (W : WX) (to : TO) (m : DEnv → Res (Option Int)) : Prop := ∀ (σ : L2.St) (Δ : DEnv) (F H : Hp) (Q : Option Int → Hp → Prop), EnvOk L F σ Δ H → Want L W σ Δ F H (m Δ) (fun o _ F' H' => Q o H') → to σ H Q
structure DO (X : Cx) (L : Lx) (W : WX) (e : Option Expr) (m : DEnv → Res (Option Int)) : Prop where ex : ∃ to, PO X e to ∧ SndO L W to m
theorem o_none : DO X L W none (fun Δ => .ok none Δ) := ⟨_, po_none, fun σ Δ F H Q env w => w F H env .refl⟩
def someM (m : DEnv → Res D) : DEnv → Res (Option Int) := fun Δ => (m Δ).bind fun d Δ1 => match d with
  | .int i => .ok (some i) Δ1
  | _ => .stuck
theorem o_some (h : DE X L W e me) : DO X L W (some e) (someM me) := by
  obtain ⟨_, p1, s1⟩ := h.ex
  refine ⟨_, po_some p1, fun σ Δ F H Q env w => s1 σ Δ F H _ env (w.bind.mono fun d Δ1 F1 H1 env1 w1 v r => ?_)⟩
  cases d with
  | int i => cases r; exact ⟨i, rfl, w1 F1 H1 env1 .refl⟩
  | _ => exact w1.elim
def cutL {α : Type} (xs : List α) (lo hi : Option Int) : List α := (xs.drop (HT.sIx xs.length 0 lo)).take (HT.sIx xs.length xs.length hi - HT.sIx xs.length 0 lo)
/-- a slice of a text -/
def slSD (d : D) (lo hi : Option Int) : Option D := match d with
  | .str z => if z.length ≤ 16777216 then some (.str (cutS z lo hi)) else none
  | _ => none
def slM {α : Type} (f : D → Option Int → Option Int → Option α) (me : DEnv → Res D) (ml mh : DEnv → Res (Option Int)) : DEnv → Res α := fun Δ => (me Δ).bind fun d Δ1 => (ml Δ1).bind fun lo Δ2 => (mh Δ2).bind fun hi Δ3 => .opt (f d lo hi) Δ3
theorem d_slS {lo hi : Option Expr} {ml mh : DEnv → Res (Option Int)} {p2 : Pos} (h : DE X L W e me) (hl : DO X L W lo ml) (hh : DO X L W hi mh) : DE X L W (.Subscript e (.Slice lo hi none p2) pos) (slM slSD me ml mh) := by
  obtain ⟨_, p1, s1⟩ := h.ex
  obtain ⟨_, q2, s2⟩ := hl.ex
  obtain ⟨_, q3, s3⟩ := hh.ex
  refine ⟨_, pe_slice sl_str p1 q2 q3, fun σ Δ F H Q env w => ?_⟩
  refine s1 σ Δ F H _ env (w.bind.mono fun d Δ1 F1 H1 env1 w1 v r => ?_)
  refine s2 σ Δ1 F1 H1 _ env1 (w1.bind.mono fun lo Δ2 F2 H2 env2 w2 => ?_)
  refine s3 σ Δ2 F2 H2 _ env2 (w2.bind.mono fun hi Δ3 F3 H3 env3 w3 => ?_)
  cases d with
  | str z =>
    cases r
    replace w3 : Want L W σ Δ3 F3 H3 (.opt (if z.length ≤ 16777216 then some (D.str (cutS z lo hi)) else none) Δ3) _ := w3
    split at w3
    · rename_i hl; exact ⟨z, rfl, by rw [line_eq]; exact hl, w3 F3 H3 env3 .refl _ (Rep.str _)⟩
    · exact w3.elim
  | _ => exact w3.elim
theorem cutL_reps {vs : List V} {ds : List D} (h : Reps L.K F vs ds) (lo hi : Option Int) : Reps L.K F (cutV vs lo hi) (cutL ds lo hi) := by
  unfold cutV cutL
  rw [h.1]
  exact (h.drop _).take _
def slLD (d : D) (lo hi : Option Int) : Option (List D) := match d with
  | .lst ds => some (cutL ds lo hi)
  | _ => none
/-- a slice of a list that a name holds -/
def slV (i : Nat) (ml mh : DEnv → Res (Option Int)) : DEnv → Res (List D) := fun Δ => match rdR Δ i with
  | none => .stuck
  | some _ => (ml Δ).bind fun lo Δ2 => (mh Δ2).bind fun hi Δ3 => .opt ((rdR Δ3 i).bind fun d => slLD d lo hi) Δ3
/-- the step so far is kept in hand -/
theorem Want.keep {α : Type} {r : Res α} {Q : α → DEnv → Hp → Hp → Prop} (h : Want L W σ Δ F H r (fun a Δ' F' H' => Step σ Δ F H σ Δ' F' H' → Q a Δ' F' H')) : Want L W σ Δ F H r Q := by
  cases r with
  | stuck => exact h
  | ex x Δ' => exact h
  | ok a Δ1 => exact fun F1 H1 e s => h F1 H1 e s s
theorem Want.from {α : Type} {r : Res α} {Q : α → DEnv → Hp → Hp → Prop} (h : Want L W σ Δ F H r Q) (s : Step σ Δ F H σ Δ1 F1 H1) : Want L W σ Δ1 F1 H1 r Q := by
  cases r with
  | stuck => exact h
  | ex x Δ' => exact fun c dd F2 H2 e t xo => h c dd F2 H2 e (s.trans t) xo
  | ok a Δ2 => exact fun F2 H2 e t => h F2 H2 e (s.trans t)
theorem f_slV {lo hi : Option Expr} {ml mh : DEnv → Res (Option Int)} {p2 : Pos} (hN : X.N[i]? = some x) (hv : Vis X.env.scope x) (hd : (x == ("__debug__" : Str)) = false) (hcd : (x == ("__classdict__" : Str)) = false) (hl : DO X L W lo ml) (hh : DO X L W hi mh) :
    DF X L W (.Subscript (.Name x p) (.Slice lo hi none p2) pos) (slV i ml mh) := by
  obtain ⟨_, q2, s2⟩ := hl.ex
  obtain ⟨_, q3, s3⟩ := hh.ex
  refine ⟨_, pe_slice sl_list (pe_var hN hv hd hcd) q2 q3, fun σ Δ F H Q env w => ?_⟩
  unfold slV at w
  cases q0 : rdR Δ i with
  | none => rw [q0] at w; exact w.elim
  | some d0 =>
    rw [q0] at w
    obtain ⟨v, e1, _⟩ := env.rd q0
    replace w : Want L W σ Δ F H ((ml Δ).bind fun lo Δ2 => (mh Δ2).bind fun hi Δ3 => .opt ((rdR Δ3 i).bind fun d => slLD d lo hi) Δ3) _ := w
    refine ⟨v, slot_some e1, s2 σ Δ F H _ env (Want.keep (w.bind.mono fun lo Δ2 F2 H2 env2 w2 st2 => ?_))⟩
    refine s3 σ Δ2 F2 H2 _ env2 (Want.keep (w2.bind.mono fun hi Δ3 F3 H3 env3 w3 st3 => ?_))
    cases q1 : rdR Δ3 i with
    | none => rw [q1] at w3; exact w3.elim
    | some d =>
      rw [q1, Option.bind_some] at w3
      obtain ⟨v', e2, rv⟩ := env3.rd q1
      rw [e1] at e2; cases e2
      cases d with
      | lst ds =>
        obtain ⟨a, vs, rfl, h1, h2⟩ := rv.lst env3.ex
        have rr := cutL_reps h2 lo hi
        refine ⟨a, vs, rfl, SqL.of h1, fun p hp => ?_⟩
        obtain ⟨a1, a2, a3, a4⟩ := fresh_env (vs := cutV vs lo hi) env3 hp
        exact w3 F3 _ a1 a2 p _ ((st2.trans st3).hn hp) a3 a4 upd_same rr
      | _ => exact w3.elim
end
end KL
/-! KL, part g: comprehensions, defs and their calls. -/
namespace KL
open PySem L2

/-! ### comprehensions: the block's own slots vs are empty within, and as they were behind -/
def wipeD (Δ : DEnv) : List Nat → DEnv
  | [] => Δ
  | v :: vs => (wipeD Δ vs).set v .no
def restD (Δ Δ' : DEnv) : List Nat → DEnv
  | [] => Δ'
  | v :: vs => match Δ[v]? with
    | some c => (restD Δ Δ' vs).set v c
    | none => restD Δ Δ' vs
def plainC : Option Cell → Bool
  | some .no => true
  | some (.va _) => true
  | _ => false
section
variable {X : Cx} {L : Lx} {W : WX} {σ σ' σ1 σ2 : L2.St} {Δ Δ' Δ1 : DEnv} {F F' F1 H H' H1 : Hp} {E : Ends}
theorem wipeD_get {vs : List Nat} {j : Nat} : (wipeD Δ vs)[j]? = if j ∈ vs ∧ j < Δ.length then some .no else Δ[j]? := by
  have len : ∀ us, (wipeD Δ us).length = Δ.length := fun us => by
    induction us with
    | nil => rfl
    | cons u us ih => rw [wipeD, List.length_set]; exact ih
  induction vs with
  | nil => simp [wipeD]
  | cons v vs ih =>
    rw [wipeD]
    by_cases hj : v = j
    · subst hj
      by_cases hl : v < Δ.length
      · rw [List.getElem?_set_self (by rw [len]; exact hl), if_pos ⟨by simp, hl⟩]
      · rw [List.getElem?_eq_none (by rw [List.length_set, len]; omega), if_neg (fun z => hl z.2), List.getElem?_eq_none (by omega)]
    · rw [List.getElem?_set_ne hj, ih]
      by_cases hm : j ∈ vs ∧ j < Δ.length
      · rw [if_pos hm, if_pos ⟨by simp [hm.1], hm.2⟩]
      · rw [if_neg hm, if_neg (fun z => hm ⟨by simpa [Ne.symm hj] using z.1, z.2⟩)]
theorem wipeD_len (vs : List Nat) : (wipeD Δ vs).length = Δ.length := by
  induction vs with
  | nil => rfl
  | cons u us ih => rw [wipeD, List.length_set]; exact ih
theorem restD_len (vs : List Nat) : (restD Δ Δ' vs).length = Δ'.length := by
  induction vs with
  | nil => rfl
  | cons u us ih =>
    rw [restD]
    split
    · rw [List.length_set]; exact ih
    · exact ih
theorem restD_get {vs : List Nat} {j : Nat} (hl : Δ'.length = Δ.length) : (restD Δ Δ' vs)[j]? = if j ∈ vs then Δ[j]? else Δ'[j]? := by
  induction vs with
  | nil => simp [restD]
  | cons v vs ih =>
    rw [restD]
    by_cases hj : v = j
    · subst hj
      rw [if_pos (by simp)]
      cases q : Δ[v]? with
      | some c =>
        have hv := (List.getElem?_eq_some_iff.mp q).1
        show ((restD Δ Δ' vs).set v c)[v]? = _
        rw [List.getElem?_set_self (by rw [restD_len, hl]; exact hv)]
      | none =>
        show (restD Δ Δ' vs)[v]? = _
        have := List.getElem?_eq_none_iff.mp q
        rw [List.getElem?_eq_none (by rw [restD_len, hl]; exact this)]
    · have e : (match Δ[v]? with | some c => (restD Δ Δ' vs).set v c | none => restD Δ Δ' vs)[j]? = (restD Δ Δ' vs)[j]? := by
        split
        · rw [List.getElem?_set_ne hj]
        · rfl
      rw [e, ih]
      by_cases hm : j ∈ vs
      · rw [if_pos hm, if_pos (by simp [hm])]
      · rw [if_neg hm, if_neg (by simp [hm, Ne.symm hj])]
theorem wipe_slot {vs : List Nat} {j : Nat} : slot (wipe σ vs) j = if j ∈ vs then none else slot σ j := by
  induction vs with
  | nil => simp [wipe]
  | cons v vs ih =>
    rw [wipe]
    by_cases hj : v = j
    · subst hj
      rw [if_pos (by simp)]
      unfold slot
      by_cases hl : v < (wipe σ vs).length
      · rw [List.getElem?_set_self hl]; rfl
      · rw [List.getElem?_eq_none (by rw [List.length_set]; omega)]; rfl
    · have e : slot ((wipe σ vs).set v none) j = slot (wipe σ vs) j := by unfold slot; rw [List.getElem?_set_ne hj]
      rw [e, ih]
      by_cases hm : j ∈ vs
      · rw [if_pos hm, if_pos (by simp [hm])]
      · rw [if_neg hm, if_neg (by simp [hm, Ne.symm hj])]
theorem wipe_slot_eq {vs : List Nat} (h : wipe σ2 vs = wipe σ vs) {j : Nat} (hj : j ∉ vs) : slot σ2 j = slot σ j := by
  have a := wipe_slot (σ := σ2) (vs := vs) (j := j)
  have b := wipe_slot (σ := σ) (vs := vs) (j := j)
  rw [if_neg hj] at a b
  rw [← a, ← b, h]
theorem EnvOk.wipe {vs : List Nat} (env : EnvOk L F σ Δ H) : EnvOk L F (wipe σ vs) (wipeD Δ vs) H := by
  have get : ∀ (j : Nat) c, (wipeD Δ vs)[j]? = some c → c = .no ∨ (j ∉ vs ∧ Δ[j]? = some c) := fun j c h => by
    rw [wipeD_get] at h
    split at h
    · cases h; exact .inl rfl
    · rename_i hn
      refine .inr ⟨fun z => hn ⟨z, (List.getElem?_eq_some_iff.mp h).1⟩, h⟩
  refine ⟨env.ex, by rw [wipe_length, wipeD_len]; exact env.len, fun j c hc => ?_, fun j k c c' xs ys a hjk hj hk h1 h2 e1 e2 => ?_⟩
  · rcases get j c hc with rfl | ⟨n, h⟩
    · trivial
    · rw [wipe_slot, if_neg n]; exact env.cells j c h
  · rcases get j c hj with rfl | ⟨n1, g1⟩
    · cases h1
    · rcases get k c' hk with rfl | ⟨n2, g2⟩
      · cases h2
      · rw [wipe_slot, if_neg n1] at e1
        rw [wipe_slot, if_neg n2] at e2
        exact env.apart j k c c' xs ys a hjk g1 g2 h1 h2 e1 e2
theorem own_wipe {vs : List Nat} {b : Addr} (h : Own (wipe σ vs) (wipeD Δ vs) b) : Own σ Δ b := by
  obtain ⟨j, c, xs, h1, h2, h3⟩ := h
  rw [wipeD_get] at h1
  split at h1
  · cases h1; cases h2
  · rename_i hn
    have n : j ∉ vs := fun z => hn ⟨z, (List.getElem?_eq_some_iff.mp h1).1⟩
    rw [wipe_slot, if_neg n] at h3
    exact ⟨j, c, xs, h1, h2, h3⟩
theorem own_unwipe {vs : List Nat} {b : Addr} (hp : ∀ v ∈ vs, plainC Δ[v]? = true) (h : Own σ Δ b) : Own (wipe σ vs) (wipeD Δ vs) b := by
  obtain ⟨j, c, xs, h1, h2, h3⟩ := h
  have n : j ∉ vs := fun z => by
    have := hp j z
    rw [h1] at this
    cases c with
    | ow _ => exact Bool.noConfusion (show false = true from this)
    | pa _ => exact Bool.noConfusion (show false = true from this)
    | _ => cases h2
  refine ⟨j, c, xs, ?_, h2, by rw [wipe_slot, if_neg n]; exact h3⟩
  rw [wipeD_get, if_neg (fun z => n z.1)]; exact h1
/-- behind a turn of the block -/
theorem EnvOk.rest {vs : List Nat} {Δ2 : DEnv} {F2 H2 : Hp} (hp : ∀ v ∈ vs, plainC Δ[v]? = true) (env : EnvOk L F σ Δ H) (st : Step (L2.wipe σ vs) (wipeD Δ vs) F H σ2 Δ2 F2 H2) (env2 : EnvOk L F2 σ2 Δ2 H2) (hw : L2.wipe σ2 vs = L2.wipe σ vs) :
    EnvOk L F2 σ (restD Δ Δ2 vs) H2 ∧ Step σ Δ F H σ (restD Δ Δ2 vs) F2 H2 := by
  have hl : Δ2.length = Δ.length := by
    rw [← env2.len, ← env.len, ← wipe_length σ2 vs, hw, wipe_length]
  have cell : ∀ (j : Nat) c, (restD Δ Δ2 vs)[j]? = some c → (j ∈ vs ∧ Δ[j]? = some c ∧ c.list? = none) ∨ (j ∉ vs ∧ Δ2[j]? = some c) := fun j c h => by
    rw [restD_get hl] at h
    split at h
    · rename_i hj
      have := hp j hj
      rw [h] at this
      exact .inl ⟨hj, h, by cases c <;> first | rfl | cases this⟩
    · rename_i hj; exact .inr ⟨hj, h⟩
  refine ⟨⟨env2.ex, by rw [restD_len, hl]; exact env.len, fun j c hc => ?_, fun j k c c' xs ys a hjk hj hk h1 h2 e1 e2 => ?_⟩, ?_⟩
  · rcases cell j c hc with ⟨h1, h2, h3⟩ | ⟨h1, h2⟩
    · have q := env.cells j c h2
      have := hp j h1
      rw [h2] at this
      cases c with
      | no => trivial
      | va d => obtain ⟨v, g1, g2⟩ := q; exact ⟨v, g1, g2.mono st.fr⟩
      | _ => cases this
    · rw [← wipe_slot_eq hw h1]; exact env2.cells j c h2
  · rcases cell j c hj with ⟨g1, g2, g3⟩ | ⟨g1, g2⟩
    · rw [g3] at h1; cases h1
    · rcases cell k c' hk with ⟨g4, g5, g6⟩ | ⟨g4, g5⟩
      · rw [g6] at h2; cases h2
      · rw [← wipe_slot_eq hw g1] at e1
        rw [← wipe_slot_eq hw g4] at e2
        exact env2.apart j k c c' xs ys a hjk g2 g5 h1 h2 e1 e2
  · refine ⟨st.fr, fun b o h n => st.kp b o h fun z => n (own_wipe z), fun b o h => ?_, fun b ⟨j, c, xs, hj, h1, e1⟩ => ?_, fun j xs hj => ?_, fun j xs hj => ?_, st.th⟩
    · rcases st.fn b o h with z | z | z
      · exact .inl z
      · exact .inr (.inl z)
      · exact .inr (.inr (own_wipe z))
    · rcases cell j c hj with ⟨g1, g2, g3⟩ | ⟨g1, g2⟩
      · rw [g3] at h1; cases h1
      · rcases st.ow b ⟨j, c, xs, g2, h1, by rw [wipe_slot_eq hw g1]; exact e1⟩ with z | z
        · exact .inl (own_wipe z)
        · exact .inr z
    · have n : j ∉ vs := fun z => by have := hp j z; rw [hj] at this; cases this
      obtain ⟨xs', g1, g2⟩ := st.pa j xs (by rw [wipeD_get, if_neg (fun z => n z.1)]; exact hj)
      exact ⟨xs', by rw [restD_get hl, if_neg n]; exact g1, rfl⟩
    · rcases cell j _ hj with ⟨g1, g2, g3⟩ | ⟨g1, g2⟩
      · cases g3
      · obtain ⟨xs', g3⟩ := st.pb j xs g2
        rw [wipeD_get, if_neg (fun z => g1 z.1)] at g3
        exact ⟨xs', g3⟩
def compM (vs : List Nat) (tgt : D → DEnv → Option DEnv) (cond : DEnv → Res Bool) (elt : DEnv → Res D) : List D → List D → DEnv → Res (List D)
  | [], acc, Δ => .ok acc Δ
  | d :: ds, acc, Δ => match tgt d (wipeD Δ vs) with
    | none => .stuck
    | some Δ1 => (cond Δ1).nox.bind fun b Δ2 => if b = true then (elt Δ2).nox.bind fun y Δ3 => compM vs tgt cond elt ds (acc ++ [y]) (restD Δ Δ3 vs) else compM vs tgt cond elt ds acc (restD Δ Δ2 vs)
/-- guards: the block's slots hold no own list; the list stays below the line -/
def lcM (vs : List Nat) (mi : DEnv → Res (List D)) (tgt : D → DEnv → Option DEnv) (cond : DEnv → Res Bool) (elt : DEnv → Res D) : DEnv → Res (List D) := fun Δ => (mi Δ).bind fun ds Δ1 => gd (decide (ds.length < 16777216) && vs.all fun v => plainC Δ1[v]?) (compM vs tgt cond elt ds [] Δ1)
abbrev WF : WX := fun _ _ _ _ => False
/-- the parts of a block are told at the block's frame, what is wanted at the one around -/
theorem Want.cross {α β : Type} {W' : WX} {Δ3 : DEnv} {F3 H3 : Hp} {r : Res α} {f : α → DEnv → Res β} {Q : β → DEnv → Hp → Hp → Prop} (h : Want L W σ Δ F H (r.nox.bind f) Q) :
    Want L W' σ2 Δ3 F3 H3 r (fun a Δ4 F4 H4 => Step σ2 Δ3 F3 H3 σ2 Δ4 F4 H4 → Want L W σ Δ F H (f a Δ4) Q) := by
  cases r with
  | stuck => exact h
  | ex x Δ' => exact h.elim
  | ok a Δ1 => exact fun F1 H1 e s _ => h
theorem Step.hid {Dl : Addr} {o : HO} (s : Step σ Δ F H σ1 Δ1 F1 H1) (hD : H Dl = none) : Step σ Δ F H σ1 Δ1 F1 (upd H1 Dl o) :=
  ⟨s.fr, fun b u h n => by rw [upd_ne (ne_of_none h hD)]; exact s.kp b u h n, s.fn, s.ow, s.pa, s.pb, fun b u h => by rw [upd_ne (ne_of_none h hD)]; exact s.th b u h⟩
theorem EnvOk.hid {Dl : Addr} {o : HO} (env : EnvOk L F σ Δ H) (ho : ¬ Own σ Δ Dl) (hf : F Dl = none) : EnvOk L F σ Δ (upd H Dl o) := by
  refine ⟨fun b u h => by rw [upd_ne (ne_of_none h hf)]; exact env.ex b u h, env.len, fun i c hc => ?_, env.apart⟩
  have k := env.cells i c hc
  have keep : ∀ us, c.list? = some us → (∃ b ws', slot σ i = some (.ref b) ∧ H b = some (.lst ws') ∧ F b = none ∧ Reps L.K F ws' us) → ∃ b ws', slot σ i = some (.ref b) ∧ upd H Dl o b = some (.lst ws') ∧ F b = none ∧ Reps L.K F ws' us := by
    rintro us hu ⟨b, ws', g1, g2, g3, g4⟩
    refine ⟨b, ws', g1, ?_, g3, g4⟩
    rw [upd_ne (fun z => ho ⟨i, c, us, hc, hu, by rw [← z]; exact g1⟩)]; exact g2
  cases c with
  | no => trivial
  | va d => exact k
  | ow us => exact keep us rfl k
  | pa us => exact keep us rfl k
  | xc x => exact k
theorem restD_plain {vs : List Nat} {Δ2 : DEnv} (hl : Δ2.length = Δ.length) (hp : ∀ v ∈ vs, plainC Δ[v]? = true) : ∀ v ∈ vs, plainC (restD Δ Δ2 vs)[v]? = true := fun v hv => by
  rw [restD_get hl, if_pos hv]; exact hp v hv

variable {tg iter elt : Expr} {ifs : List Expr} {scope : Scope} {own : List (Str × Nat)} {pos : Pos} {mi : DEnv → Res (List D)} {tgt : D → DEnv → Option DEnv} {mc : DEnv → Res Bool} {me : DEnv → Res D}
structure DTs (X : Cx) (L : Lx) (W : WX) (es : List Expr) (m : DEnv → Res Bool) : Prop where ex : ∃ tt, PTs X es tt ∧ SndT L W tt m
theorem ts_nil : DTs X L W [] (fun Δ => .ok true Δ) := ⟨_, pts_nil, fun σ Δ F H Q env w => w F H env .refl⟩
theorem ts_one {c : Expr} (h : DT X L W c mc) : DTs X L W [c] mc := ⟨let ⟨_, p1, s1⟩ := h.ex; ⟨_, pts_one p1, s1⟩⟩
/-- a target within the block's own slots -/
def TgIn (vs : List Nat) (g : TG) : Prop := ∀ (σw : L2.St) (v : V) (σ' : L2.St) (H : Hp) (Q : L2.St → Hp → Prop), wipe σ' vs = σw → g v σ' H (fun σ2 H2 => wipe σ2 vs = σw → Q σ2 H2) → g v σ' H fun σ2 H2 => wipe σ2 vs = σw ∧ Q σ2 H2
def TgsIn (vs : List Nat) (g : TGs) : Prop := ∀ (σw : L2.St) (us : List V) (σ' : L2.St) (H : Hp) (Q : L2.St → Hp → Prop), wipe σ' vs = σw → g us σ' H (fun σ2 H2 => wipe σ2 vs = σw → Q σ2 H2) → g us σ' H fun σ2 H2 => wipe σ2 vs = σw ∧ Q σ2 H2
theorem wipe_get {vs : List Nat} {j : Nat} : (wipe σ vs)[j]? = if j ∈ vs ∧ j < σ.length then some none else σ[j]? := by
  induction vs with
  | nil => simp [wipe]
  | cons v vs ih =>
    rw [wipe]
    by_cases hj : v = j
    · subst hj
      by_cases hl : v < σ.length
      · rw [List.getElem?_set_self (by rw [wipe_length]; exact hl), if_pos ⟨by simp, hl⟩]
      · rw [List.getElem?_eq_none (by rw [List.length_set, wipe_length]; omega), if_neg (fun z => hl z.2), List.getElem?_eq_none (by omega)]
    · rw [List.getElem?_set_ne hj, ih]
      by_cases hm : j ∈ vs ∧ j < σ.length
      · rw [if_pos hm, if_pos ⟨by simp [hm.1], hm.2⟩]
      · rw [if_neg hm, if_neg (fun z => hm ⟨by simpa [Ne.symm hj] using z.1, z.2⟩)]
theorem wipe_set {vs : List Nat} {i : Nat} {x : Option V} (hi : i ∈ vs) : wipe (σ.set i x) vs = wipe σ vs := by
  apply List.ext_getElem?
  intro j
  rw [wipe_get, wipe_get, List.length_set]
  by_cases hm : j ∈ vs ∧ j < σ.length
  · rw [if_pos hm, if_pos hm]
  · rw [if_neg hm, if_neg hm]
    by_cases hj : i = j
    · subst hj
      have : ¬ i < σ.length := fun z => hm ⟨hi, z⟩
      rw [List.getElem?_eq_none (by rw [List.length_set]; omega), List.getElem?_eq_none (by omega)]
    · rw [List.getElem?_set_ne hj]
theorem wipe_wipe {vs : List Nat} : wipe (wipe σ vs) vs = wipe σ vs := by
  apply List.ext_getElem?
  intro j
  rw [wipe_get, wipe_length]
  by_cases hm : j ∈ vs ∧ j < σ.length
  · rw [if_pos hm, wipe_get, if_pos hm]
  · rw [if_neg hm]
theorem tgin_name {vs : List Nat} {i : Nat} (hi : i ∈ vs) : TgIn vs (gName i) := fun σw v σ' H Q h q => by
  have e : wipe (σ'.set i (some v)) vs = σw := by rw [wipe_set hi]; exact h
  exact ⟨e, q e⟩
theorem tgsin_nil {vs : List Nat} : TgsIn vs gNil := fun σw us σ' H Q h q => ⟨q.1, h, q.2 h⟩
theorem tgsin_cons {vs : List Nat} {g : TG} {gs : TGs} (h : TgIn vs g) (hs : TgsIn vs gs) (mono : ∀ (v : V) (σ' : L2.St) (H : Hp) (Q Q' : L2.St → Hp → Prop), (∀ σ2 H2, Q σ2 H2 → Q' σ2 H2) → g v σ' H Q → g v σ' H Q') : TgsIn vs (gCons g gs) := fun σw us σ' H Q e q => by
  obtain ⟨v, r, h1, h2⟩ := q
  exact ⟨v, r, h1, mono _ _ _ _ _ (fun σ2 H2 z => hs σw r σ2 H2 Q z.1 z.2) (h σw v σ' H _ e (mono _ _ _ _ _ (fun σ2 H2 z _ => z) h2))⟩
theorem tgin_tup {vs : List Nat} {K : PySem.W.Frag} {n : Nat} {gs : TGs} (hs : TgsIn vs gs) : TgIn vs (gTup K n gs) := fun σw v σ' H Q e q => by
  obtain ⟨a, xs, h1, h2, h3, h4⟩ := q
  exact ⟨a, xs, h1, h2, h3, hs σw xs σ' H Q e h4⟩
/-- what a turn's parts mean, whatever the block's frame is -/
theorem snd_lc {wi : TI} {g : TG} {tt : TT} {te : TE} {vs : List Nat} (hi : SndI L W wi mi) (hg : SndG L g tgt) (ht : SndT L WF tt mc) (he : Snd L WF te me) (hgw : TgIn vs g) :
    SndF L W (tLc wi g tt te vs) (lcM vs mi tgt mc me) := by
  intro σ Δ F H Q env w
  refine hi σ Δ F H _ env ?_
  replace w : Want L W σ Δ F H ((mi Δ).bind fun ds Δ1 => gd (decide (ds.length < 16777216) && vs.all fun v => plainC Δ1[v]?) (compM vs tgt mc me ds [] Δ1)) _ := w
  cases qi : mi Δ with
  | stuck => rw [qi] at w; exact w
  | ex x Δ' => rw [qi] at w; exact w
  | ok ds Δ1 =>
  rw [qi] at w
  intro F1 H1 env1 st1 J hJ Dl hD
  replace w : Want L W σ Δ F H (gd (decide (ds.length < 16777216) && vs.all fun v => plainC Δ1[v]?) (compM vs tgt mc me ds [] Δ1)) _ := w
  unfold gd at w
  split at w
  case isFalse => exact w.elim
  rename_i hgd
  obtain ⟨hz, hpl⟩ := Bool.and_eq_true_iff.mp hgd
  have hz := of_decide_eq_true hz
  have hpl : ∀ v ∈ vs, plainC Δ1[v]? = true := List.all_eq_true.mp hpl
  have hD0 := st1.hn hD
  obtain ⟨a1, a2, a3, a4⟩ := fresh_env (vs := []) env1 hD
  refine ⟨fun i k H' => k = ds.length - i ∧ i ≤ ds.length ∧ ∃ Δ' F' accv acc, Ex F1 F' ∧ EnvOk L F' σ Δ' H' ∧ Step σ Δ F H σ Δ' F' H' ∧ (∀ v ∈ vs, plainC Δ'[v]? = true) ∧ H' Dl = some (.lst accv) ∧ F' Dl = none ∧ ¬ Own σ Δ' Dl ∧ Reps L.K F' accv acc ∧ acc.length ≤ i ∧
      Want L W σ Δ F H (compM vs tgt mc me (ds.drop i) acc Δ') (fun ds Δ' F' H' => ∀ p vs, H p = none → ¬ Own σ Δ' p → F' p = none → H' p = some (.lst vs) → Reps L.K F' vs ds → Q (.ref p) H'),
    ⟨_, rfl, Nat.zero_le _, Δ1, F1, [], [], Ex.refl _, a1, st1.trans a2, hpl, upd_same, a4, a3, .nil, Nat.le_refl _, w⟩, ?_⟩
  rintro i k H' ⟨rfl, hi, Δ', F', accv, acc, ex, env', st', hpl', hDl, hFl, hOl, hrep, hlen, w'⟩
  obtain ⟨j1, j2⟩ := hJ i F' H' ex env'.ex
  by_cases hlt : i < ds.length
  case neg =>
    have e : i = ds.length := by omega
    subst e
    rw [List.drop_length] at w'
    exact .inl ⟨j2 (Nat.le_refl _), w' F' H' env' st' Dl accv hD0 hOl hFl hDl hrep⟩
  obtain ⟨go, yl⟩ := j1 _ (List.getElem?_eq_getElem hlt)
  refine .inr ⟨go, fun H2 => ∃ Δ' F' accv acc, Ex F1 F' ∧ EnvOk L F' σ Δ' H2 ∧ Step σ Δ F H σ Δ' F' H2 ∧ (∀ v ∈ vs, plainC Δ'[v]? = true) ∧ H2 Dl = some (.lst accv) ∧ F' Dl = none ∧ ¬ Own σ Δ' Dl ∧ Reps L.K F' accv acc ∧ acc.length ≤ i + 1 ∧
      Want L W σ Δ F H (compM vs tgt mc me (ds.drop (i + 1)) acc Δ') (fun ds Δ' F' H' => ∀ p vs, H p = none → ¬ Own σ Δ' p → F' p = none → H' p = some (.lst vs) → Reps L.K F' vs ds → Q (.ref p) H'), fun H2 q => ⟨_, by omega, rfl, hlt, q⟩, fun x H'' y => ?_⟩
  obtain ⟨F'', gr, rx⟩ := yl x H'' y
  have env2 := env'.gro gr
  have stg : Step σ Δ' F' H' σ Δ' F'' H'' := Step.gro gr
  have hDl2 : H'' Dl = some (.lst accv) := gr.h _ _ hDl
  have hFl2 : F'' Dl = none := by
    cases q : F'' Dl with
    | none => rfl
    | some o => rcases gr.n Dl o q with z | z
                · rw [hFl] at z; cases z
                · rw [hDl] at z; cases z
  rw [List.drop_eq_getElem_cons hlt] at w'
  unfold compM at w'
  cases qt : tgt ds[i] (wipeD Δ' vs) with
  | none => rw [qt] at w'; exact w'.elim
  | some Δ3 =>
    rw [qt] at w'
    refine hgw _ x _ H'' _ wipe_wipe (hg (wipe σ vs) (wipeD Δ' vs) Δ3 F'' H'' x _ _ env2.wipe rx qt fun σ3 env3 st3 hw => ?_)
    -- the end of a turn: the frame around, from the block's
    have fin : ∀ {Δ5 : DEnv} {F5 H5 : Hp}, EnvOk L F5 σ3 Δ5 H5 → Step σ3 Δ3 F'' H'' σ3 Δ5 F5 H5 → EnvOk L F5 σ (restD Δ' Δ5 vs) H5 ∧ Step σ Δ F H σ (restD Δ' Δ5 vs) F5 H5 ∧ (∀ v ∈ vs, plainC (restD Δ' Δ5 vs)[v]? = true) ∧
        H5 Dl = some (.lst accv) ∧ F5 Dl = none ∧ ¬ Own σ (restD Δ' Δ5 vs) Dl ∧ Ex F' F5 := fun {Δ5 F5 H5} env5 st5 => by
      have stA := st3.trans st5
      obtain ⟨r1, r2⟩ := EnvOk.rest hpl' env2 stA env5 hw
      have hOw : ¬ Own (wipe σ vs) (wipeD Δ' vs) Dl := fun z => hOl (own_wipe z)
      have r3 : H5 Dl = some (.lst accv) := stA.kp Dl _ hDl2 hOw
      refine ⟨r1, (st'.trans stg).trans r2, restD_plain (by rw [← env5.len, ← env'.len, ← wipe_length σ3 vs, hw, wipe_length]) hpl', r3, ?_, fun z => ?_, gr.f.trans stA.fr⟩
      · cases q : F5 Dl with
        | none => rfl
        | some o =>
          rcases stA.fn Dl o q with z | z | z
          · rw [hFl2] at z; cases z
          · rw [hDl2] at z; cases z
          · exact absurd z hOw
      · rcases r2.ow Dl z with y | y
        · exact hOl y
        · rw [hDl2] at y; cases y
    refine ht σ3 Δ3 F'' H'' _ env3 (Want.keep ((Want.cross w').mono fun b Δ4 F4 H4 env4 wb st4 => ?_))
    have w4 := wb st4
    cases b with
    | false =>
      obtain ⟨r1, r2, r3, r4, r5, r6, r7⟩ := fin env4 st4
      exact ⟨_, F4, accv, acc, ex.trans r7, r1, r2, r3, r4, r5, r6, hrep.mono r7, by omega, w4⟩
    | true =>
      refine he σ3 Δ4 F4 H4 _ env4 (Want.keep ((Want.cross w4).mono fun y Δ5 F5 H5 env5 wy st5 v rv => ?_))
      have w5 := wy st5
      obtain ⟨r1, r2, r3, r4, r5, r6, r7⟩ := fin env5 (st4.trans st5)
      refine ⟨accv, r4, by rw [line_eq, hrep.1]; omega, ?_⟩
      exact ⟨_, F5, accv ++ [v], acc ++ [y], ex.trans r7, r1.hid r6 r5, r2.hid hD0, r3, upd_same, r5, r6, (hrep.mono r7).append (.cons rv .nil), by rw [List.length_append, List.length_singleton]; omega, w5⟩

/-! ### one reading for all places -/
def teM (L : Lx) (W : WX) (m : DEnv → Res D) : TE := fun σ H Q => ∃ Δ F, EnvOk L F σ Δ H ∧ Want L W σ Δ F H (m Δ) (fun d _ F' H' => ∀ v, Rep L.K F' v d → Q v H')
def ttM (L : Lx) (W : WX) (m : DEnv → Res Bool) : TT := fun σ H Q => ∃ Δ F, EnvOk L F σ Δ H ∧ Want L W σ Δ F H (m Δ) (fun b _ F' H' => Q b H')
theorem DE.one {e : Expr} {m : DEnv → Res D} (h : DE X L W e m) : PE X e (teM L W m) := by
  obtain ⟨te, p, s⟩ := h.ex
  exact ⟨fun pins s0 σ H Q I q => by obtain ⟨Δ, F, env, w⟩ := q; exact p.run pins s0 σ H Q I (s σ Δ F H Q env w)⟩
theorem DTs.one {es : List Expr} {m : DEnv → Res Bool} (h : DTs X L W es m) : PTs X es (ttM L W m) := by
  obtain ⟨te, p, s⟩ := h.ex
  exact ⟨fun pins s0 σ H Q I q => by obtain ⟨Δ, F, env, w⟩ := q; exact p.run pins s0 σ H Q I (s σ Δ F H Q env w)⟩
theorem snd_teM {m : DEnv → Res D} : Snd L W (teM L W m) m := fun σ Δ F H Q env w => ⟨Δ, F, env, w⟩
theorem snd_ttM {m : DEnv → Res Bool} : SndT L W (ttM L W m) m := fun σ Δ F H Q env w => ⟨Δ, F, env, w⟩
/-- a block's target -/
structure BG (X : Cx) (scope : Scope) (L : Lx) (vs : List Nat) (tg : Expr) (tgt : D → DEnv → Option DEnv) : Prop where
  ex : ∃ g, (∀ (s : Shared) (H : Hp) (C : Addr) (cl : List (Str × Addr)) (fp : List Addr), PG (X.blk s H scope (compEnvC scope cl C X.env) fp) tg g) ∧ SndG L g tgt ∧ TgIn vs g ∧ ∀ (v : V) (σ' : L2.St) (H : Hp) (Q Q' : L2.St → Hp → Prop), (∀ σ2 H2, Q σ2 H2 → Q' σ2 H2) → g v σ' H Q → g v σ' H Q'
structure BGs (X : Cx) (scope : Scope) (L : Lx) (vs : List Nat) (tgs : List Expr) (tgt : List D → DEnv → Option DEnv) : Prop where
  ex : ∃ g, (∀ (s : Shared) (H : Hp) (C : Addr) (cl : List (Str × Addr)) (fp : List Addr), PGs (X.blk s H scope (compEnvC scope cl C X.env) fp) tgs g) ∧ SndGs L g tgt ∧ TgsIn vs g ∧ ∀ (us : List V) (σ' : L2.St) (H : Hp) (Q Q' : L2.St → Hp → Prop), (∀ σ2 H2, Q σ2 H2 → Q' σ2 H2) → g us σ' H Q → g us σ' H Q'
theorem sndg_name {i : Nat} : SndG L (gName i) (tgN i) := fun σ Δ Δ' F H v d Q env r ht q => by
  unfold tgN at ht
  split at ht
  · rename_i hi; cases ht
    exact q _ (env.setC hi ⟨v, rfl, r⟩ fun xs a h _ => by cases h) (Step.setC .refl env.len hi (fun xs h => by cases h) fun xs h => by cases h)
  · cases ht
theorem b_name {i : Nat} {x : Str} {vs : List Nat} {pos : Pos} (hN : X.N.Nodup) (hi : X.N[i]? = some x) (hx : ∀ (s : Shared) (H : Hp) (C : Addr) (cl : List (Str × Addr)) (fp : List Addr), Loc (X.blk s H scope (compEnvC scope cl C X.env) fp).env.scope x)
    (hf : ∀ (s : Shared) (H : Hp) (C : Addr) (cl : List (Str × Addr)) (fp : List Addr), (X.blk s H scope (compEnvC scope cl C X.env) fp).fn x = true ∨ (X.blk s H scope (compEnvC scope cl C X.env) fp).env.scope.names.lookup x = some .local) (hv : i ∈ vs) : BG X scope L vs (.Name x pos) (tgN i) :=
  ⟨gName i, fun s H C cl fp => pg_name hN hi (hx s H C cl fp) (hf s H C cl fp), sndg_name, tgin_name hv, fun v σ' H Q Q' h q => h _ _ q⟩
theorem bs_nil {vs : List Nat} : BGs X scope L vs [] tgsNil := by
  refine ⟨gNil, fun s H C cl fp => pgs_nil, fun σ Δ Δ' F H us ds Q env r ht q => ?_, tgsin_nil, fun us σ' H Q Q' h q => ⟨q.1, h _ _ q.2⟩⟩
  cases ds with
  | nil => cases ht; exact ⟨r.nil_inv, q σ env .refl⟩
  | cons d ds => cases ht
theorem bs_cons {vs : List Nat} {tgs : List Expr} {t : D → DEnv → Option DEnv} {u : List D → DEnv → Option DEnv} (h : BG X scope L vs tg t) (hs : BGs X scope L vs tgs u)
    (hst : ∀ (s : Shared) (H : Hp) (C : Addr) (cl : List (Str × Addr)) (fp : List Addr), (assignEach (tg :: tgs) (X.blk s H scope (compEnvC scope cl C X.env) fp).env).map (·.2) = assign tg (X.blk s H scope (compEnvC scope cl C X.env) fp).env :: (assignEach tgs (X.blk s H scope (compEnvC scope cl C X.env) fp).env).map (·.2) := by intros; rfl) :
    BGs X scope L vs (tg :: tgs) (tgsCons t u) := by
  obtain ⟨g1, p1, s1, i1, m1⟩ := h.ex
  obtain ⟨g2, p2, s2, i2, m2⟩ := hs.ex
  refine ⟨gCons g1 g2, fun s H C cl fp => pgs_cons (p1 s H C cl fp) (p2 s H C cl fp) (hst s H C cl fp), fun σ Δ Δ' F H us ds Q env r ht q => ?_, tgsin_cons i1 i2 m1, fun us σ' H Q Q' hq q => ?_⟩
  · cases ds with
    | nil => cases ht
    | cons d ds =>
      obtain ⟨Δ1, h1, h2⟩ := Option.bind_eq_some_iff.mp ht
      obtain ⟨v, ws, rfl, r1, r2⟩ := r.cons_inv
      exact ⟨v, ws, rfl, s1 σ Δ Δ1 F H v d _ env r1 h1 fun σ1 env1 st1 => s2 σ1 Δ1 Δ' F H ws ds Q env1 r2 h2 fun σ2 env2 st2 => q σ2 env2 (st1.trans st2)⟩
  · obtain ⟨v, r, h1, h2⟩ := q
    exact ⟨v, r, h1, m1 _ _ _ _ _ (fun σ2 H2 z => m2 _ _ _ _ _ hq z) h2⟩
theorem b_tup {vs : List Nat} {tgs : List Expr} {k : Nat} {u : List D → DEnv → Option DEnv} {n : Nat} {pos : Pos} (h : BGs X scope L vs tgs u) (hc : X.calm = true := by rfl)
    (hn : ∀ (s : Shared) (H : Hp) (C : Addr) (cl : List (Str × Addr)) (fp : List Addr), (assignEach tgs (X.blk s H scope (compEnvC scope cl C X.env) fp).env).length = n := by intros; rfl)
    (hst : ∀ (s : Shared) (H : Hp) (C : Addr) (cl : List (Str × Addr)) (fp : List Addr), (assignEach tgs (X.blk s H scope (compEnvC scope cl C X.env) fp).env).findIdx? (·.1) = none := by intros; rfl) (hk : L.K = X.K := by rfl) :
    BG X scope L vs (.Tuple tgs k pos) (tgT n u) := by
  obtain ⟨g1, p1, s1, i1, m1⟩ := h.ex
  refine ⟨gTup X.K n g1, fun s H C cl fp => pg_tup (X := X.blk s H scope (compEnvC scope cl C X.env) fp) hc (p1 s H C cl fp) (hn s H C cl fp) (hst s H C cl fp), fun σ Δ Δ' F H v d Q env r ht q => ?_, tgin_tup i1, fun v σ' H Q Q' hq q => ?_⟩
  · unfold tgT at ht
    split at ht
    · rename_i ds
      split at ht
      · rename_i hl
        obtain ⟨a, vs, rfl, h1, h2⟩ := rep_ref_tup r
        exact ⟨a, vs, rfl, hk ▸ env.ex.st h1, by rw [h2.1]; exact hl, s1 σ Δ Δ' F H vs ds Q env h2 ht q⟩
      · cases ht
    · cases ht
  · obtain ⟨a, xs, h1, h2, h3, h4⟩ := q
    exact ⟨a, xs, h1, h2, h3, m1 _ _ _ _ _ hq h4⟩
theorem f_lc (hN : X.N.Nodup) (hi : DI X L W tg iter mi) (ok : BlkOk X.N X.env.scope scope own) (hg : BG X scope L (own.map (·.2)) tg tgt)
    (ht : ∀ (s : Shared) (H : Hp) (C : Addr) (cl : List (Str × Addr)) (fp : List Addr), DTs (X.blk s H scope (compEnvC scope cl C X.env) fp) L WF ifs mc)
    (he : ∀ (s : Shared) (H : Hp) (C : Addr) (cl : List (Str × Addr)) (fp : List Addr), DE (X.blk s H scope (compEnvC scope cl C X.env) fp) L WF elt me) (hc : X.calm = true := by rfl) (hs : ∀ x, foldedSetIterable iter X.env x = pure x := by intro _; rfl) :
    DF X L W (.ListComp elt [⟨tg, iter, ifs, 0⟩] scope pos) (lcM (own.map (·.2)) mi tgt mc me) := by
  obtain ⟨wi, p1, s1⟩ := hi.ex
  obtain ⟨g, p2, s2, i2, _⟩ := hg.ex
  exact ⟨_, pe_lc hc hN p1 ok p2 (fun s H C cl fp => (ht s H C cl fp).one) (fun s H C cl fp => (he s H C cl fp).one) hs, snd_lc s1 s2 snd_ttM snd_teM i2⟩
/-- name = [..], an own list -/
theorem s_setLc {i : Nat} {y : Str} {py spos : Pos} (hN : X.N.Nodup) (hy : X.N[i]? = some y) (hyl : X.env.scope.names.lookup y = some .local) (hsw : swapsWith (.ListComp elt [⟨tg, iter, ifs, 0⟩] scope pos) (some (.Name y py)) spos.line X.env = pure true) (hi : DI X L W tg iter mi) (ok : BlkOk X.N X.env.scope scope own) (hg : BG X scope L (own.map (·.2)) tg tgt)
    (ht : ∀ (s : Shared) (H : Hp) (C : Addr) (cl : List (Str × Addr)) (fp : List Addr), DTs (X.blk s H scope (compEnvC scope cl C X.env) fp) L WF ifs mc)
    (he : ∀ (s : Shared) (H : Hp) (C : Addr) (cl : List (Str × Addr)) (fp : List Addr), DE (X.blk s H scope (compEnvC scope cl C X.env) fp) L WF elt me) (hc : X.calm = true := by rfl) (hs : ∀ x, foldedSetIterable iter X.env x = pure x := by intro _; rfl) :
    DS X L W (.Assign [.Name y py] (.ListComp elt [⟨tg, iter, ifs, 0⟩] scope pos) spos) (fun Δ => (lcM (own.map (·.2)) mi tgt mc me Δ).s fun d Δ1 => setO i d Δ1) := by
  obtain ⟨wi, p1, s1⟩ := hi.ex
  obtain ⟨g, p2, s2, i2, _⟩ := hg.ex
  exact ⟨_, ps_setLc hc hN hy hyl hsw p1 ok p2 (fun s H C cl fp => (ht s H C cl fp).one) (fun s H C cl fp => (he s H C cl fp).one) hs, snd_setF (snd_lc s1 s2 snd_ttM snd_teM i2)⟩
end
end KL
/-! KL, part h: what a def promises, its body, its calls. -/
namespace KL
open PySem L2

inductive FRes where
  | stuck | ok (d : D) (cs : DEnv) | fr (ds : List D) (cs : DEnv) | ex (x : Exc) (cs : DEnv)
def WantF (L : Lx) (vs : List V) (cs : DEnv) (F H : Hp) (r : FRes) (Q : VK) (E : XK) : Prop := match r with
  | .stuck => False
  | .ok d cs' => ∀ v F' H', EnvOk L F' (vs.map some) cs' H' → Step (vs.map some) cs F H (vs.map some) cs' F' H' → Rep L.K F' v d → Q v H'
  | .fr ds cs' => ∀ p ws F' H', EnvOk L F' (vs.map some) cs' H' → Step (vs.map some) cs F H (vs.map some) cs' F' H' → H p = none → F' p = none → H' p = some (.lst ws) → Reps L.K F' ws ds → Q (.ref p) H'
  | .ex x cs' => ∀ c dd F' H', EnvOk L F' (vs.map some) cs' H' → Step (vs.map some) cs F H (vs.map some) cs' F' H' → XOk L F' c dd x → E c dd H'
/-- the promise: what mf tells of the arguments' cells -/
def spD (L : Lx) (n : Nat) (mf : DEnv → FRes) : Sp := fun vs H Q E => vs.length = n ∧ ∃ cs F, EnvOk L F (vs.map some) cs H ∧ (∀ (i : Nat) xs, cs[i]? ≠ some (Cell.ow xs)) ∧ WantF L vs cs F H (mf cs) Q E
def kpD (n : Nat) (Δ : DEnv) : DEnv := (List.range n).map fun (i : Nat) => match (Δ[i]? : Option Cell) with
  | some (Cell.pa xs) => Cell.pa xs
  | _ => Cell.no
def bodyF (n N : Nat) (ms : DEnv → SRes) : DEnv → FRes := fun cs => match ms (cs ++ List.replicate (N - n) .no) with
  | .nx Δ => .ok .non (kpD n Δ)
  | .rt d Δ => .ok d (kpD n Δ)
  | .rf ds Δ => .fr ds (kpD n Δ)
  | .ex x Δ => .ex x (kpD n Δ)
  | _ => .stuck
section
variable {L : Lx} {F F' H H' : Hp} {vs : List V} {cs : DEnv} {n : Nat}
theorem kpD_get {Δ : DEnv} {i : Nat} {c : Cell} (h : (kpD n Δ)[i]? = some c) : c = .no ∨ ∃ xs, c = .pa xs ∧ Δ[i]? = some (.pa xs) ∧ i < n := by
  unfold kpD at h
  rw [List.getElem?_map] at h
  cases q : (List.range n)[i]? with
  | none => rw [q] at h; cases h
  | some j =>
    rw [q] at h
    have hi : i < n := by have := (List.getElem?_eq_some_iff.mp q).1; simpa using this
    have hj : j = i := by rw [List.getElem?_range hi] at q; cases q; rfl
    subst hj
    replace h : some (match (Δ[j]? : Option Cell) with | some (Cell.pa xs) => Cell.pa xs | _ => Cell.no) = some c := h
    split at h
    · rename_i xs e; cases h; exact .inr ⟨xs, rfl, e, hi⟩
    · cases h; exact .inl rfl
theorem kpD_pa {Δ : DEnv} {i : Nat} {xs : List D} (h : Δ[i]? = some (.pa xs)) (hi : i < n) : (kpD n Δ)[i]? = some (.pa xs) := by
  unfold kpD
  rw [List.getElem?_map, List.getElem?_range hi]
  show some (match (Δ[i]? : Option Cell) with | some (Cell.pa xs) => Cell.pa xs | _ => Cell.no) = _
  rw [h]
theorem slot_start {N : List Str} {i : Nat} : slot (L2.start N vs) i = slot (vs.map some) i := by
  unfold slot L2.start
  by_cases h : i < vs.length
  · rw [List.getElem?_append_left (by simpa using h)]
  · rw [List.getElem?_append_right (by simpa using h), List.getElem?_replicate, List.getElem?_eq_none (l := vs.map some) (by simpa using h)]
    split <;> rfl
theorem app_no {m i : Nat} {c : Cell} (h : (cs ++ List.replicate m Cell.no)[i]? = some c) : c = .no ∨ cs[i]? = some c := by
  by_cases hi : i < cs.length
  · rw [List.getElem?_append_left hi] at h; exact .inr h
  · rw [List.getElem?_append_right (by omega), List.getElem?_replicate] at h
    split at h
    · cases h; exact .inl rfl
    · cases h
theorem env_start {N : List Str} (env : EnvOk L F (vs.map some) cs H) : EnvOk L F (L2.start N vs) (cs ++ List.replicate (N.length - vs.length) .no) H := by
  have hl := env.len
  rw [List.length_map] at hl
  refine ⟨env.ex, by unfold L2.start; rw [List.length_append, List.length_append, List.length_map, List.length_replicate, List.length_replicate, hl], fun i c hc => ?_, fun i j c c' xs ys a hij hi hj h1 h2 e1 e2 => ?_⟩
  · rw [slot_start]
    rcases app_no hc with rfl | h
    · trivial
    · exact env.cells i c h
  · rw [slot_start] at e1 e2
    rcases app_no hi with rfl | g1
    · cases h1
    · rcases app_no hj with rfl | g2
      · cases h2
      · exact env.apart i j c c' xs ys a hij g1 g2 h1 h2 e1 e2
theorem own_start {N : List Str} {m : Nat} {b : Addr} (h : Own (L2.start N vs) (cs ++ List.replicate m .no) b) : Own (vs.map some) cs b := by
  obtain ⟨i, c, xs, h1, h2, h3⟩ := h
  rcases app_no h1 with rfl | g
  · cases h2
  · exact ⟨i, c, xs, g, h2, by rw [← slot_start (N := N)]; exact h3⟩
theorem own_start' {N : List Str} {m : Nat} {b : Addr} (h : Own (vs.map some) cs b) : Own (L2.start N vs) (cs ++ List.replicate m .no) b := by
  obtain ⟨i, c, xs, h1, h2, h3⟩ := h
  exact ⟨i, c, xs, by rw [List.getElem?_append_left (List.getElem?_eq_some_iff.mp h1).1]; exact h1, h2, by rw [slot_start]; exact h3⟩
theorem env_end {N : List Str} {m : Nat} {σ' : L2.St} {Δ' : DEnv} (hn : vs.length = n) (env : EnvOk L F (vs.map some) cs H) (env' : EnvOk L F' σ' Δ' H') (st : Step (L2.start N vs) (cs ++ List.replicate m .no) F H σ' Δ' F' H') :
    EnvOk L F' (vs.map some) (kpD n Δ') H' ∧ Step (vs.map some) cs F H (vs.map some) (kpD n Δ') F' H' := by
  have hl := env.len
  rw [List.length_map] at hl
  have same : ∀ (i : Nat) xs, Δ'[i]? = some (Cell.pa xs) → slot σ' i = slot (vs.map some) i := fun i xs h => by
    obtain ⟨ys, e⟩ := st.pb i xs h
    obtain ⟨zs, e1, e2⟩ := st.pa i ys e
    rw [e2, slot_start]
  refine ⟨⟨env'.ex, by unfold kpD; rw [List.length_map, List.length_map, List.length_range, hn], fun i c hc => ?_, fun i j c c' xs ys a hij hi hj h1 h2 e1 e2 => ?_⟩, ⟨st.fr, fun b o h no => st.kp b o h fun z => no (own_start z), fun b o h => ?_, fun b ⟨i, c, xs, hi, h1, e1⟩ => ?_, fun i xs h => ?_, fun i xs h => ?_, st.th⟩⟩
  · rcases kpD_get hc with rfl | ⟨xs, rfl, h, hi⟩
    · trivial
    · rw [← same i xs h]; exact env'.cells i _ h
  · rcases kpD_get hi with rfl | ⟨xs', rfl, g1, _⟩
    · cases h1
    · rcases kpD_get hj with rfl | ⟨ys', rfl, g2, _⟩
      · cases h2
      · rw [← same i _ g1] at e1
        rw [← same j _ g2] at e2
        exact env'.apart i j _ _ xs ys a hij g1 g2 h1 h2 e1 e2
  · rcases st.fn b o h with z | z | z
    · exact .inl z
    · exact .inr (.inl z)
    · exact .inr (.inr (own_start z))
  · rcases kpD_get hi with rfl | ⟨xs', rfl, g1, _⟩
    · cases h1
    · rcases st.ow b ⟨i, _, xs, g1, h1, by rw [same i _ g1]; exact e1⟩ with z | z
      · exact .inl (own_start z)
      · exact .inr z
  · have hi : i < cs.length := (List.getElem?_eq_some_iff.mp h).1
    obtain ⟨ys, e1, e2⟩ := st.pa i xs (by rw [List.getElem?_append_left hi]; exact h)
    exact ⟨ys, kpD_pa e1 (by omega), rfl⟩
  · rcases kpD_get h with q | ⟨xs', q, g1, _⟩
    · cases q
    · obtain ⟨ys, e⟩ := st.pb i xs' g1
      rcases app_no e with q2 | q2
      · cases q2
      · exact ⟨ys, q2⟩
end
section
variable {P : Program} {w : World} {K : PySem.W.Frag} {mg : Str → Option Value} {base : Heap} {L : Lx}
/-- a def keeps what its body's reading tells -/
theorem fn_body {x qual : Str} {st : Stmt} {f : Addr} {fd : FuncData} {N ps : List Str} {k : Nat} {ms : DEnv → SRes} (Fn : Fun K x qual st f fd) (S : FnScope N ps (defScope st))
    (hb : ∀ (cdv : Value) (A : Around) (outer : List PySem.Env) (s : Shared) (H : Hp) (E : XK), Room k (A.deeper (PyProof.Rows.envOfC qual (defScope st) s.heap.objs.size f cdv)) →
      Takes (cxOf (L2.CX P w) P w K mg base N qual (defScope st) f cdv A outer s H E) (fun cls d _ H => E cls d H) →
      DSs (cxOf (L2.CX P w) P w K mg base N qual (defScope st) f cdv A outer s H E) L (fun cls d _ H => E cls d H) (defBody st) ms) :
    FnOk P w K mg base (L2.CX P w) (k + 1) f fd ps (spD L ps.length (bodyF ps.length N.length ms)) := by
  refine Fn.okX S (fun vs H Q E h => h.1) (fun cdv A outer s H vs Q E hr h => ?_)
  obtain ⟨ts, p, sd⟩ := (hb cdv A outer s H E hr (takes_of rfl rfl rfl rfl)).ex
  refine ⟨ts, p, ?_⟩
  obtain ⟨hn, cs, F, env, now, wf⟩ := h
  have env0 := env_start (N := N) env
  refine sd (L2.start N vs) _ F H _ env0 ?_
  unfold bodyF at wf
  rw [← hn] at wf
  generalize hms : ms (cs ++ List.replicate (N.length - vs.length) Cell.no) = r at wf ⊢
  cases r with
  | stuck => exact wf
  | bk Δ => exact wf.elim
  | ct Δ => exact wf.elim
  | nx Δ => exact fun σ' F' H' e t => let ⟨a, b⟩ := env_end hn env e t; wf .non F' H' (hn ▸ a) (hn ▸ b) .non
  | rt d Δ => exact fun σ' v F' H' e t r => let ⟨a, b⟩ := env_end hn env e t; wf v F' H' (hn ▸ a) (hn ▸ b) r
  | ex x Δ => exact fun σ' c dd F' H' e t xo => let ⟨a, b⟩ := env_end hn env e t; wf c dd F' H' (hn ▸ a) (hn ▸ b) xo
  | rf ds Δ =>
    intro σ' p ws F' H' e t hp hf hh hpa rs
    obtain ⟨a, b⟩ := env_end hn env e t
    refine wf p ws F' H' (hn ▸ a) (hn ▸ b) ?_ hf hh rs
    rcases hp with z | z
    · exact z
    · obtain ⟨i, c, xs, h1, h2, h3⟩ := z
      rcases app_no h1 with rfl | g
      · cases h2
      · cases c with
        | ow ys => exact absurd g (now i ys)
        | pa ys =>
          obtain ⟨zs, e1, e2⟩ := t.pa i ys h1
          exact absurd (e2.trans h3) (hpa i zs e1)
        | _ => cases h2
end

/-! ### calls: an argument is a value, or an own list that the callee may change -/
abbrev Arg := Sum D Nat
def aV (m : DEnv → Res D) (r : DEnv → Res (List Arg)) : DEnv → Res (List Arg) := fun Δ => (m Δ).bind fun d Δ1 => (r Δ1).map (Sum.inl d :: ·)
def aO (i : Nat) (r : DEnv → Res (List Arg)) : DEnv → Res (List Arg) := fun Δ => match getL Δ i with
  | none => .stuck
  | some _ => (r Δ).map (Sum.inr i :: ·)
def argOk (L : Lx) (F : Hp) (σ : L2.St) (v : V) : Arg → Prop
  | .inl d => Rep L.K F v d
  | .inr i => slot σ i = some v
def ArgsOk (L : Lx) (F : Hp) (σ : L2.St) (vs : List V) (zs : List Arg) : Prop := vs.length = zs.length ∧ ∀ (k : Nat) v z, vs[k]? = some v → zs[k]? = some z → argOk L F σ v z
def SndC (L : Lx) (W : WX) (ta : TA) (m : DEnv → Res (List Arg)) : Prop := ∀ (σ : L2.St) (Δ : DEnv) (F H : Hp) (Q : List V → Hp → Prop), EnvOk L F σ Δ H → Want L W σ Δ F H (m Δ) (fun zs _ F' H' => ∀ vs, ArgsOk L F' σ vs zs → Q vs H') → ta σ H Q
structure DC (X : Cx) (L : Lx) (W : WX) (es : List Expr) (m : DEnv → Res (List Arg)) : Prop where
  ex : ∃ ta, PA X es ta ∧ SndC L W ta m
  ln : ∀ Δ zs Δ1, m Δ = .ok zs Δ1 → zs.length = es.length
section
variable {X : Cx} {L : Lx} {W : WX} {σ : L2.St} {Δ Δ' Δ1 : DEnv} {F F' H H' : Hp} {e : Expr} {es : List Expr} {me : DEnv → Res D} {r : DEnv → Res (List Arg)} {x : Str} {p pos : Pos} {i : Nat} {zs : List Arg} {vs : List V}
theorem argsOk_cons {v : V} {z : Arg} (h : argOk L F σ v z) (hs : ArgsOk L F σ vs zs) : ArgsOk L F σ (v :: vs) (z :: zs) := by
  refine ⟨by simp [hs.1], fun k u y h1 h2 => ?_⟩
  cases k with
  | zero => simp at h1 h2; subst h1; subst h2; exact h
  | succ k => exact hs.2 k u y (by simpa using h1) (by simpa using h2)
theorem c_nil : DC X L W [] (fun Δ => .ok [] Δ) := ⟨⟨_, pa_nil, fun σ Δ F H Q env w => w F H env .refl [] ⟨rfl, fun k v z h => by simp at h⟩⟩, fun Δ zs Δ1 h => by cases h; rfl⟩
theorem c_val (h : DE X L W e me) (hs : DC X L W es r) (hst : starEach (e :: es) X.env = (false, eval e X.env) :: starEach es X.env := by rfl) : DC X L W (e :: es) (aV me r) := by
  obtain ⟨_, p1, s1⟩ := h.ex
  obtain ⟨_, p2, s2⟩ := hs.ex
  refine ⟨⟨_, pa_cons p1 p2 hst, fun σ Δ F H Q env w => ?_⟩, fun Δ zs Δ2 h => ?_⟩
  case refine_2 =>
    unfold aV at h
    cases q : me Δ with
    | stuck => rw [q] at h; cases h
    | ex x Δ' => rw [q] at h; cases h
    | ok d Δ1 =>
      rw [q] at h
      replace h : (r Δ1).map (Sum.inl d :: ·) = .ok zs Δ2 := h
      cases q2 : r Δ1 with
      | stuck => rw [q2] at h; cases h
      | ex x Δ' => rw [q2] at h; cases h
      | ok ys Δ3 => rw [q2] at h; cases h; exact congrArg (· + 1) (hs.ln _ _ _ q2)
  refine s1 σ Δ F H _ env (w.bind.mono fun d Δ1 F1 H1 env1 w1 v rv => ?_)
  refine s2 σ Δ1 F1 H1 _ env1 ?_
  have w2 : Want L W σ Δ1 F1 H1 ((r Δ1).map (Sum.inl d :: ·)) _ := w1
  cases q : r Δ1 with
  | stuck => rw [q] at w2; exact w2
  | ex x Δ' => rw [q] at w2; exact w2
  | ok zs Δ2 =>
    rw [q] at w2
    intro F2 H2 env2 st2 vs rs
    exact w2 F2 H2 env2 st2 (v :: vs) (argsOk_cons (rv.mono st2.fr) rs)
theorem c_own (hN : X.N[i]? = some x) (hv : Vis X.env.scope x) (hd : (x == ("__debug__" : Str)) = false) (hcd : (x == ("__classdict__" : Str)) = false) (hs : DC X L W es r)
    (hst : starEach (Expr.Name x p :: es) X.env = (false, eval (.Name x p) X.env) :: starEach es X.env := by rfl) : DC X L W (.Name x p :: es) (aO i r) := by
  obtain ⟨_, p2, s2⟩ := hs.ex
  refine ⟨⟨_, pa_cons (pe_var hN hv hd hcd) p2 hst, fun σ Δ F H Q env w => ?_⟩, fun Δ zs Δ2 h => ?_⟩
  case refine_2 =>
    unfold aO at h
    split at h
    · cases h
    · cases q2 : r Δ with
      | stuck => rw [q2] at h; cases h
      | ex x Δ' => rw [q2] at h; cases h
      | ok ys Δ3 => rw [q2] at h; cases h; exact congrArg (· + 1) (hs.ln _ _ _ q2)
  unfold aO at w
  cases q0 : getL Δ i with
  | none => rw [q0] at w; exact w.elim
  | some xs =>
    rw [q0] at w
    obtain ⟨a, us, e1, _⟩ := env.getL q0
    refine ⟨.ref a, slot_some e1, s2 σ Δ F H _ env ?_⟩
    have w2 : Want L W σ Δ F H ((r Δ).map (Sum.inr i :: ·)) _ := w
    cases q : r Δ with
    | stuck => rw [q] at w2; exact w2
    | ex x Δ' => rw [q] at w2; exact w2
    | ok zs Δ2 =>
      rw [q] at w2
      intro F2 H2 env2 st2 vs rs
      exact w2 F2 H2 env2 st2 (.ref a :: vs) (argsOk_cons (z := .inr i) e1 rs)
/-- the callee's cells -/
def cellsOf (Δ : DEnv) : List Arg → Option DEnv
  | [] => some []
  | .inl d :: zs => (cellsOf Δ zs).map (Cell.va d :: ·)
  | .inr i :: zs => (getL Δ i).bind fun xs => (cellsOf Δ zs).map (Cell.pa xs :: ·)
def slotsOf : List Arg → List Nat
  | [] => []
  | .inl _ :: zs => slotsOf zs
  | .inr i :: zs => i :: slotsOf zs
def backD : List Arg → DEnv → DEnv → DEnv
  | .inr i :: zs, .pa xs :: cs, Δ => backD zs cs (setL Δ i xs)
  | _ :: zs, _ :: cs, Δ => backD zs cs Δ
  | _, _, Δ => Δ
theorem cellsOf_get : ∀ {zs : List Arg} {cs : DEnv}, cellsOf Δ zs = some cs → cs.length = zs.length ∧ ∀ (k : Nat) z c, zs[k]? = some z → cs[k]? = some c → (∃ d, z = .inl d ∧ c = .va d) ∨ ∃ i xs, z = .inr i ∧ c = .pa xs ∧ getL Δ i = some xs
  | [], cs, h => by cases h; exact ⟨rfl, fun k z c h => by simp at h⟩
  | .inl d :: zs, cs, h => by
    obtain ⟨cs', h1, rfl⟩ := Option.map_eq_some_iff.mp h
    obtain ⟨l, q⟩ := cellsOf_get h1
    refine ⟨by simp [l], fun k z c e1 e2 => ?_⟩
    cases k with
    | zero => simp at e1 e2; subst e1 e2; exact .inl ⟨d, rfl, rfl⟩
    | succ k => exact q k z c (by simpa using e1) (by simpa using e2)
  | .inr i :: zs, cs, h => by
    obtain ⟨xs, h0, h2⟩ := Option.bind_eq_some_iff.mp h
    obtain ⟨cs', h3, rfl⟩ := Option.map_eq_some_iff.mp h2
    obtain ⟨l, q⟩ := cellsOf_get h3
    refine ⟨by simp [l], fun k z c e1 e2 => ?_⟩
    cases k with
    | zero => simp at e1 e2; subst e1 e2; exact .inr ⟨i, xs, rfl, rfl, h0⟩
    | succ k => exact q k z c (by simpa using e1) (by simpa using e2)
theorem mem_slots {i : Nat} : ∀ {zs : List Arg}, i ∈ slotsOf zs ↔ ∃ k : Nat, zs[k]? = some (.inr i)
  | [] => by simp [slotsOf]
  | .inl d :: zs => by
    rw [slotsOf, mem_slots]
    constructor
    · rintro ⟨k, h⟩; exact ⟨k + 1, by simpa using h⟩
    · rintro ⟨k, h⟩
      cases k with
      | zero => simp at h
      | succ k => exact ⟨k, by simpa using h⟩
  | .inr j :: zs => by
    rw [slotsOf, List.mem_cons, mem_slots]
    constructor
    · rintro (rfl | ⟨k, h⟩)
      · exact ⟨0, rfl⟩
      · exact ⟨k + 1, by simpa using h⟩
    · rintro ⟨k, h⟩
      cases k with
      | zero => simp at h; exact .inl h.symm
      | succ k => exact .inr ⟨k, by simpa using h⟩
theorem slots_inj : ∀ {zs : List Arg} {i k k' : Nat}, (slotsOf zs).Nodup → zs[k]? = some (.inr i) → zs[k']? = some (.inr i) → k = k'
  | [], i, k, k', _, h, _ => by simp at h
  | z :: zs, i, 0, 0, _, _, _ => rfl
  | z :: zs, i, 0, k' + 1, nd, h, h' => by
    simp at h h'
    subst h
    exact absurd (mem_slots.mpr ⟨k', h'⟩) (List.nodup_cons.mp nd).1
  | z :: zs, i, k + 1, 0, nd, h, h' => by
    simp at h h'
    subst h'
    exact absurd (mem_slots.mpr ⟨k, h⟩) (List.nodup_cons.mp nd).1
  | z :: zs, i, k + 1, k' + 1, nd, h, h' => by
    have nd' : (slotsOf zs).Nodup := by
      cases z with
      | inl d => exact nd
      | inr j => exact (List.nodup_cons.mp nd).2
    exact congrArg (· + 1) (slots_inj (k := k) (k' := k') nd' (by simpa using h) (by simpa using h'))
def putC (xs : List D) : Cell → Cell
  | .ow _ => .ow xs
  | .pa _ => .pa xs
  | c => c
theorem setL_get {xs : List D} {j : Nat} : (setL Δ i xs)[j]? = if j = i then (Δ[i]?).map (putC xs) else Δ[j]? := by
  unfold setL
  by_cases hj : j = i
  · subst hj
    rw [if_pos rfl]
    cases q : Δ[j]? with
    | none => exact q
    | some c =>
      have hl := (List.getElem?_eq_some_iff.mp q).1
      cases c with
      | ow ys => show (Δ.set j (.ow xs))[j]? = _; rw [List.getElem?_set_self hl]; rfl
      | pa ys => show (Δ.set j (.pa xs))[j]? = _; rw [List.getElem?_set_self hl]; rfl
      | _ => exact q
  · rw [if_neg hj]
    split
    · rw [List.getElem?_set_ne (Ne.symm hj)]
    · rw [List.getElem?_set_ne (Ne.symm hj)]
    · rfl
theorem setL_len {xs : List D} : (setL Δ i xs).length = Δ.length := by
  unfold setL; split <;> simp
theorem backD_len : ∀ {zs : List Arg} {cs Δ : DEnv}, (backD zs cs Δ).length = Δ.length := by
  intro zs
  induction zs with
  | nil => intro cs Δ; cases cs <;> rfl
  | cons z zs ih =>
    intro cs Δ
    cases cs with
    | nil => cases z <;> rfl
    | cons c cs =>
      cases z with
      | inl d => exact ih
      | inr i => cases c <;> first | exact ih | (show (backD zs cs (setL Δ i _)).length = _; rw [ih, setL_len])
theorem backD_out {j : Nat} : ∀ {zs : List Arg} {cs Δ : DEnv}, j ∉ slotsOf zs → (backD zs cs Δ)[j]? = Δ[j]? := by
  intro zs
  induction zs with
  | nil => intro cs Δ _; cases cs <;> rfl
  | cons z zs ih =>
    intro cs Δ h
    cases cs with
    | nil => cases z <;> rfl
    | cons c cs =>
      cases z with
      | inl d => exact ih h
      | inr i =>
        rw [slotsOf, List.mem_cons, not_or] at h
        cases c with
        | pa xs => show (backD zs cs (setL Δ i xs))[j]? = _; rw [ih h.2, setL_get, if_neg h.1]
        | _ => exact ih h.2
theorem backD_in {j k : Nat} : ∀ {zs : List Arg} {cs Δ : DEnv} {xs : List D}, (slotsOf zs).Nodup → zs[k]? = some (.inr j) → cs[k]? = some (.pa xs) → (backD zs cs Δ)[j]? = (Δ[j]?).map (putC xs) := by
  intro zs
  induction zs generalizing k with
  | nil => intro cs Δ xs _ h; simp at h
  | cons z zs ih =>
    intro cs Δ xs nd h1 h2
    cases cs with
    | nil => simp at h2
    | cons c cs =>
      cases k with
      | zero =>
        simp at h1 h2; subst h1 h2
        show (backD zs cs (setL Δ j xs))[j]? = _
        rw [backD_out (List.nodup_cons.mp nd).1, setL_get, if_pos rfl]
      | succ k =>
        have g1 : zs[k]? = some (.inr j) := by simpa using h1
        have g2 : cs[k]? = some (.pa xs) := by simpa using h2
        cases z with
        | inl d => exact ih nd g1 g2
        | inr i =>
          have nd' := (List.nodup_cons.mp nd).2
          have ne : j ≠ i := fun e => (List.nodup_cons.mp nd).1 (mem_slots.mpr ⟨k, by rw [← e]; exact g1⟩)
          cases c with
          | pa ys => show (backD zs cs (setL Δ i ys))[j]? = _; rw [ih nd' g1 g2, setL_get, if_neg ne]
          | _ => exact ih nd' g1 g2
/-- the arguments, as the callee knows them -/
theorem env_args {cs : DEnv} (env : EnvOk L F σ Δ H) (nd : (slotsOf zs).Nodup) (hc : cellsOf Δ zs = some cs) (ha : ArgsOk L F σ vs zs) : EnvOk L F (vs.map some) cs H ∧ (∀ (i : Nat) xs, cs[i]? ≠ some (Cell.ow xs)) ∧ ∀ b, Own (vs.map some) cs b → Own σ Δ b := by
  obtain ⟨hl, get⟩ := cellsOf_get hc
  have at_ : ∀ (k : Nat) c, cs[k]? = some c → ∃ v z, vs[k]? = some v ∧ zs[k]? = some z ∧ argOk L F σ v z ∧ ((∃ d, z = .inl d ∧ c = .va d) ∨ ∃ i xs, z = .inr i ∧ c = .pa xs ∧ getL Δ i = some xs) := fun k c h => by
    have hk := (List.getElem?_eq_some_iff.mp h).1
    have hz : k < zs.length := by omega
    have hv : k < vs.length := by rw [ha.1]; exact hz
    exact ⟨vs[k], zs[k], List.getElem?_eq_getElem hv, List.getElem?_eq_getElem hz, ha.2 k _ _ (List.getElem?_eq_getElem hv) (List.getElem?_eq_getElem hz), get k _ c (List.getElem?_eq_getElem hz) h⟩
  have slv : ∀ {k : Nat} {v : V}, vs[k]? = some v → slot (vs.map some) k = some v := fun {k v} h => by unfold slot; rw [List.getElem?_map, h]; rfl
  refine ⟨⟨env.ex, by rw [List.length_map, hl, ha.1], fun k c h => ?_, fun k k' c c' xs ys a hk hi hj h1 h2 e1 e2 => ?_⟩, fun k xs h => ?_, fun b ⟨k, c, xs, h, h1, e1⟩ => ?_⟩
  · obtain ⟨v, z, g1, g2, g3, ⟨d, rfl, rfl⟩ | ⟨i, xs, rfl, rfl, g4⟩⟩ := at_ k c h
    · exact ⟨v, slv g1, g3⟩
    · obtain ⟨a, us, e1, e2, e3, e4⟩ := env.getL g4
      rw [slv g1]
      exact ⟨a, us, (show some v = _ from (show slot σ i = some v from g3) ▸ e1), e2, e3, e4⟩
  · obtain ⟨v, z, g1, g2, g3, ⟨d, rfl, rfl⟩ | ⟨i, xs', rfl, rfl, g4⟩⟩ := at_ k c hi
    · cases h1
    obtain ⟨v', z', f1, f2, f3, ⟨d, rfl, rfl⟩ | ⟨i', ys', rfl, rfl, f4⟩⟩ := at_ k' c' hj
    · cases h2
    rw [slv g1] at e1
    rw [slv f1] at e2
    cases e1; cases e2
    obtain ⟨c1, q1, q2⟩ := Option.bind_eq_some_iff.mp g4
    obtain ⟨c2, q3, q4⟩ := Option.bind_eq_some_iff.mp f4
    have ne : i ≠ i' := fun z => hk (slots_inj nd g2 (by rw [z]; exact f2))
    exact env.apart i i' c1 c2 _ _ a ne q1 q3 q2 q4 g3 f3
  · obtain ⟨v, z, g1, g2, g3, ⟨d, rfl, q⟩ | ⟨i, xs', rfl, q, g4⟩⟩ := at_ k _ h
    · cases q
    · cases q
  · obtain ⟨v, z, g1, g2, g3, ⟨d, rfl, rfl⟩ | ⟨i, xs', rfl, rfl, g4⟩⟩ := at_ k c h
    · cases h1
    · obtain ⟨c1, q1, q2⟩ := Option.bind_eq_some_iff.mp g4
      rw [slv g1] at e1; cases e1
      exact ⟨i, c1, xs', q1, q2, g3⟩
/-- the frame behind the call -/
theorem env_back {cs cs' : DEnv} (env : EnvOk L F σ Δ H) (nd : (slotsOf zs).Nodup) (hc : cellsOf Δ zs = some cs) (ha : ArgsOk L F σ vs zs) (env' : EnvOk L F' (vs.map some) cs' H') (st : Step (vs.map some) cs F H (vs.map some) cs' F' H') :
    EnvOk L F' σ (backD zs cs' Δ) H' ∧ Step σ Δ F H σ (backD zs cs' Δ) F' H' := by
  obtain ⟨hl, get⟩ := cellsOf_get hc
  obtain ⟨_, _, own⟩ := env_args env nd hc ha
  have slv : ∀ {k : Nat} {v : V}, vs[k]? = some v → slot (vs.map some) k = some v := fun {k v} h => by unfold slot; rw [List.getElem?_map, h]; rfl
  -- an own slot that was handed on
  have inside : ∀ (k i : Nat), zs[k]? = some (Sum.inr i) → ∃ (v : V) (c0 : Cell) (xs xs' : List D), vs[k]? = some v ∧ slot σ i = some v ∧ Δ[i]? = some c0 ∧ c0.list? = some xs ∧ cs'[k]? = some (Cell.pa xs') ∧ (backD zs cs' Δ)[i]? = some (putC xs' c0) := fun k i h => by
    have hk := (List.getElem?_eq_some_iff.mp h).1
    have hv : k < vs.length := by rw [ha.1]; exact hk
    have hcs : k < cs.length := by omega
    rcases get k _ _ h (List.getElem?_eq_getElem hcs) with ⟨d, q, _⟩ | ⟨i', xs, q1, q2, q3⟩
    · cases q
    · cases q1
      obtain ⟨c0, g1, g2⟩ := Option.bind_eq_some_iff.mp q3
      obtain ⟨xs', g3, _⟩ := st.pa k xs (by rw [List.getElem?_eq_getElem hcs, q2])
      refine ⟨vs[k], c0, xs, xs', List.getElem?_eq_getElem hv, ha.2 k _ _ (List.getElem?_eq_getElem hv) h, g1, g2, g3, ?_⟩
      rw [backD_in nd h g3, g1]; rfl
  have put_list : ∀ {c0 : Cell} {xs xs' : List D}, c0.list? = some xs → (putC xs' c0).list? = some xs' := fun {c0 xs xs'} h => by cases c0 <;> first | rfl | cases h
  -- an own slot that was not
  have nown : ∀ (j : Nat) c xs b, Δ[j]? = some c → c.list? = some xs → slot σ j = some (.ref b) → j ∉ slotsOf zs → ¬ Own (vs.map some) cs b := fun j c xs b h1 h2 h3 h4 ⟨k, ck, ys, g1, g2, g3⟩ => by
    have hk := (List.getElem?_eq_some_iff.mp g1).1
    have hz : k < zs.length := by omega
    have hv : k < vs.length := by rw [ha.1]; exact hz
    rcases get k _ _ (List.getElem?_eq_getElem hz) g1 with ⟨d, q, q2⟩ | ⟨i, zs', q1, q2, q3⟩
    · subst q2; cases g2
    · obtain ⟨c0, f1, f2⟩ := Option.bind_eq_some_iff.mp q3
      have f3 : slot σ i = some vs[k] := by
        have := ha.2 k _ _ (List.getElem?_eq_getElem hv) (List.getElem?_eq_getElem hz)
        rw [q1] at this; exact this
      rw [slv (List.getElem?_eq_getElem hv)] at g3
      have ne : i ≠ j := fun z => h4 (by rw [← z]; exact mem_slots.mpr ⟨k, by rw [List.getElem?_eq_getElem hz, q1]⟩)
      exact env.apart i j c0 c _ _ b ne f1 h1 f2 h2 (f3.trans g3) h3
  have cell : ∀ (j : Nat) c, (backD zs cs' Δ)[j]? = some c → (j ∉ slotsOf zs ∧ Δ[j]? = some c) ∨ ∃ (k : Nat) (v : V) (c0 : Cell) (xs xs' : List D), zs[k]? = some (Sum.inr j) ∧ vs[k]? = some v ∧ slot σ j = some v ∧ Δ[j]? = some c0 ∧ c0.list? = some xs ∧ cs'[k]? = some (Cell.pa xs') ∧ c = putC xs' c0 := fun j c h => by
    by_cases hj : j ∈ slotsOf zs
    · obtain ⟨k, hk⟩ := mem_slots.mp hj
      obtain ⟨v, c0, xs, xs', g1, g2, g3, g4, g5, g6⟩ := inside k j hk
      rw [g6] at h; cases h
      exact .inr ⟨k, v, c0, xs, xs', hk, g1, g2, g3, g4, g5, rfl⟩
    · rw [backD_out hj] at h; exact .inl ⟨hj, h⟩
  have lst0 : ∀ (j : Nat) c ys, (backD zs cs' Δ)[j]? = some c → c.list? = some ys → ∃ c0 xs, Δ[j]? = some c0 ∧ c0.list? = some xs := fun j c ys h h2 => by
    rcases cell j c h with ⟨_, g⟩ | ⟨k, v, c0, xs, xs', _, _, _, g3, g4, _, _⟩
    · exact ⟨c, ys, g, h2⟩
    · exact ⟨c0, xs, g3, g4⟩
  refine ⟨⟨env'.ex, by rw [backD_len]; exact env.len, fun j c h => ?_, fun j k c c' xs ys a hjk hj hk h1 h2 e1 e2 => ?_⟩, ?_⟩
  · rcases cell j c h with ⟨hj, g⟩ | ⟨k, v, c0, xs, xs', g0, g1, g2, g3, g4, g5, rfl⟩
    · have q := env.cells j c g
      have keep : ∀ us, c.list? = some us → (∃ b ws, slot σ j = some (.ref b) ∧ H b = some (.lst ws) ∧ F b = none ∧ Reps L.K F ws us) → ∃ b ws, slot σ j = some (.ref b) ∧ H' b = some (.lst ws) ∧ F' b = none ∧ Reps L.K F' ws us := by
        rintro us hu ⟨b, ws, f1, f2, f3, f4⟩
        have no := nown j c us b g hu f1 hj
        refine ⟨b, ws, f1, st.kp b _ f2 no, ?_, f4.mono st.fr⟩
        cases z : F' b with
        | none => rfl
        | some o =>
          rcases st.fn b o z with y | y | y
          · rw [f3] at y; cases y
          · rw [f2] at y; cases y
          · exact absurd y no
      cases c with
      | no => trivial
      | va d => obtain ⟨v, f1, f2⟩ := q; exact ⟨v, f1, f2.mono st.fr⟩
      | ow us => exact keep us rfl q
      | pa us => exact keep us rfl q
      | xc x => obtain ⟨a, c, dd, f1, f2, f3⟩ := q; exact ⟨a, c, dd, f1, f2, f3.mono st.fr⟩
    · obtain ⟨a, ws, f1, f2, f3, f4⟩ := env'.cells k _ g5
      rw [slv g1] at f1
      rw [g2]
      cases c0 with
      | ow us => exact ⟨a, ws, f1, f2, f3, f4⟩
      | pa us => exact ⟨a, ws, f1, f2, f3, f4⟩
      | _ => cases g4
  · obtain ⟨c3, a3, g1, g2⟩ := lst0 j c xs hj h1
    obtain ⟨c4, a4, g3, g4⟩ := lst0 k c' ys hk h2
    exact env.apart j k c3 c4 a3 a4 a hjk g1 g3 g2 g4 e1 e2
  · refine ⟨st.fr, fun b o h n => st.kp b o h fun z => n (own b z), fun b o h => ?_, fun b ⟨j, c, xs, hj, h1, e1⟩ => ?_, fun j xs hj => ?_, fun j xs hj => ?_, st.th⟩
    · rcases st.fn b o h with z | z | z
      · exact .inl z
      · exact .inr (.inl z)
      · exact .inr (.inr (own b z))
    · obtain ⟨c0, a0, g1, g2⟩ := lst0 j c xs hj h1
      exact .inl ⟨j, c0, a0, g1, g2, e1⟩
    · by_cases hs : j ∈ slotsOf zs
      · obtain ⟨k, hk⟩ := mem_slots.mp hs
        obtain ⟨v, c0, as, xs', g1, g2, g3, g4, g5, g6⟩ := inside k j hk
        rw [hj] at g3; cases g3
        exact ⟨xs', g6, rfl⟩
      · exact ⟨xs, by rw [backD_out hs]; exact hj, rfl⟩
    · rcases cell j _ hj with ⟨_, g⟩ | ⟨k, v, c0, as, xs', g0, g1, g2, g3, g4, g5, q⟩
      · exact ⟨xs, g⟩
      · cases c0 with
        | pa us => exact ⟨us, g3⟩
        | ow us => cases q
        | _ => cases g4
def FRes.toR (zs : List Arg) (Δ : DEnv) : FRes → Res D
  | .ok d cs => .ok d (backD zs cs Δ)
  | .ex x cs => .ex x (backD zs cs Δ)
  | _ => .stuck
def FRes.toF (zs : List Arg) (Δ : DEnv) : FRes → Res (List D)
  | .fr ds cs => .ok ds (backD zs cs Δ)
  | .ex x cs => .ex x (backD zs cs Δ)
  | _ => .stuck
def callG {α : Type} (g : List Arg → DEnv → FRes → Res α) (mf : DEnv → FRes) (m : DEnv → Res (List Arg)) : DEnv → Res α := fun Δ => (m Δ).bind fun zs Δ1 => match cellsOf Δ1 zs with
  | none => .stuck
  | some cs => if (slotsOf zs).Nodup then g zs Δ1 (mf cs) else .stuck
abbrev callM := callG FRes.toR
abbrev callF := callG FRes.toF
theorem snd_call {ta : TA} {n : Nat} {mf : DEnv → FRes} {m : DEnv → Res (List Arg)} (hn : ∀ zs Δ Δ1, m Δ = .ok zs Δ1 → zs.length = n) (h : SndC L W ta m) : Snd L W (tCallS (spD L n mf) (WE W) ta) (callM mf m) := by
  intro σ Δ F H Q env w
  refine h σ Δ F H _ env ?_
  unfold callM callG at w
  cases q : m Δ with
  | stuck => rw [q] at w; exact w.elim
  | ex x Δ' => rw [q] at w; exact w
  | ok zs Δ1 =>
    rw [q] at w
    intro F1 H1 env1 st1 vs ha
    replace w : Want L W σ Δ F H (match cellsOf Δ1 zs with | none => .stuck | some cs => if (slotsOf zs).Nodup then FRes.toR zs Δ1 (mf cs) else .stuck) _ := w
    refine ⟨by rw [ha.1]; exact hn zs Δ Δ1 q, ?_⟩
    cases qc : cellsOf Δ1 zs with
    | none => rw [qc] at w; exact w.elim
    | some cs =>
      rw [qc] at w
      replace w : Want L W σ Δ F H (if (slotsOf zs).Nodup then FRes.toR zs Δ1 (mf cs) else .stuck) _ := w
      split at w
      case isFalse => exact w.elim
      rename_i nd
      obtain ⟨e1, e2, e3⟩ := env_args env1 nd qc ha
      refine ⟨cs, F1, e1, e2, ?_⟩
      generalize mf cs = r at w ⊢
      cases r with
      | stuck => exact w
      | fr ds cs' => exact w.elim
      | ok d cs' =>
        intro v F' H' env' st' rv
        obtain ⟨b1, b2⟩ := env_back env1 nd qc ha env' st'
        exact w F' H' b1 (st1.trans b2) v rv
      | ex x cs' =>
        intro c dd F' H' env' st' xo
        obtain ⟨b1, b2⟩ := env_back env1 nd qc ha env' st'
        exact w c dd F' H' b1 (st1.trans b2) xo
theorem snd_callF {ta : TA} {n : Nat} {mf : DEnv → FRes} {m : DEnv → Res (List Arg)} (hn : ∀ zs Δ Δ1, m Δ = .ok zs Δ1 → zs.length = n) (h : SndC L W ta m) : SndF L W (tCallS (spD L n mf) (WE W) ta) (callF mf m) := by
  intro σ Δ F H Q env w
  refine h σ Δ F H _ env ?_
  unfold callF callG at w
  cases q : m Δ with
  | stuck => rw [q] at w; exact w.elim
  | ex x Δ' => rw [q] at w; exact w
  | ok zs Δ1 =>
    rw [q] at w
    intro F1 H1 env1 st1 vs ha
    replace w : Want L W σ Δ F H (match cellsOf Δ1 zs with | none => .stuck | some cs => if (slotsOf zs).Nodup then FRes.toF zs Δ1 (mf cs) else .stuck) _ := w
    refine ⟨by rw [ha.1]; exact hn zs Δ Δ1 q, ?_⟩
    cases qc : cellsOf Δ1 zs with
    | none => rw [qc] at w; exact w.elim
    | some cs =>
      rw [qc] at w
      replace w : Want L W σ Δ F H (if (slotsOf zs).Nodup then FRes.toF zs Δ1 (mf cs) else .stuck) _ := w
      split at w
      case isFalse => exact w.elim
      rename_i nd
      obtain ⟨e1, e2, e3⟩ := env_args env1 nd qc ha
      refine ⟨cs, F1, e1, e2, ?_⟩
      generalize mf cs = r at w ⊢
      cases r with
      | stuck => exact w
      | ok d cs' => exact w.elim
      | fr ds cs' =>
        intro p ws F' H' env' st' hp hf hh rs
        obtain ⟨b1, b2⟩ := env_back env1 nd qc ha env' st'
        refine w F' H' b1 (st1.trans b2) p ws (st1.hn hp) (fun z => ?_) hf hh rs
        rcases b2.ow p z with y | y
        · obtain ⟨us, y, _⟩ := env1.own y; rw [hp] at y; cases y
        · obtain ⟨us, y', _⟩ := b1.own z
          obtain ⟨j, c, xs, h1, h2, h3⟩ := z
          exact absurd hp (fun _ => by
            rcases b2.ow p ⟨j, c, xs, h1, h2, h3⟩ with u | u
            · obtain ⟨us', u', _⟩ := env1.own u; rw [hp] at u'; cases u'
            · -- p was nowhere: the slot held its list before, too
              by_cases hj : j ∈ slotsOf zs
              · obtain ⟨k, hk⟩ := mem_slots.mp hj
                have hk' := (List.getElem?_eq_some_iff.mp hk).1
                have hv : k < vs.length := by rw [ha.1]; exact hk'
                have g := ha.2 k _ _ (List.getElem?_eq_getElem hv) hk
                obtain ⟨hl, get⟩ := cellsOf_get qc
                rcases get k _ _ hk (List.getElem?_eq_getElem (by omega)) with ⟨d, q1, _⟩ | ⟨i', xs1, q1, q2, q3⟩
                · cases q1
                · cases q1
                  obtain ⟨a, us2, f1, f2, f3, f4⟩ := env1.getL q3
                  rw [h3] at f1; cases f1
                  rw [hp] at f2; cases f2
              · rw [backD_out hj] at h1
                obtain ⟨us2, f2, _⟩ := env1.own ⟨j, c, xs, h1, h2, h3⟩
                rw [hp] at f2; cases f2)
      | ex x cs' =>
        intro c dd F' H' env' st' xo
        obtain ⟨b1, b2⟩ := env_back env1 nd qc ha env' st'
        exact w c dd F' H' b1 (st1.trans b2) xo
end
end KL
/-! KL, part i: the own error whose __init__ says super().__init__(what) and self.what = what. -/
namespace KL
section
open PySem PySem.W PySem.Calls PyProof.Rows PySem.HandSPX

def xiA (p1 p2 : Pos) : Arguments := ⟨[], [⟨"self", none, p1⟩, ⟨"what", none, p2⟩], none, [], [], none, []⟩
def xiB (a1 a2 a3 a4 a5 a6 b1 b2 b3 b4 : Pos) : List Stmt :=
  [.Expr (.Call (.Attribute (.Call (.Name "super" a1) [] [] a2) "__init__" a3) [.Name "what" a4] [] a5) a6, .Assign [.Attribute (.Name "self" b1) "what" b2] (.Name "what" b3) b4]
def xiS : Scope := ⟨.function, [(Str.ofString "self", .local), (Str.ofString "what", .local), (Str.ofString "__class__", .free), (Str.ofString "super", .globalImplicit)], false, false, []⟩
/-- what the written part says of the class at C, called x, and of its __init__, at fI -/
structure XTxt (prog : Program) (K : Frag) (mg : Str → Option Value) (x : Str) (C fI : Addr) : Prop where
  gC : mg x = some (.ref C)
  cls : ∃ nm q N bs bm sn sub ab col dd k0 k1 k2 k3 k5, K.lookup C = some (excClassObj nm q C N bs bm true sn sub ab col dd k0 k1 k2 k3 k5 "ValueError.__new__") ∧ refsVE bm = true
  xi : excInitIn K C veTail "ValueError.__new__" = true
  sa : findIn K (.ref C) "__setattr__" = some (some (.builtin "object.__setattr__"))
  ga : findIn K (.ref C) "__getattribute__" = some (some (.builtin "BaseException.__getattribute__"))
  gg : findIn K (.ref C) "__getattr__" = some none
  noN : findIn K (.ref C) "what" = some none
  iC : findIn K (.ref C) "__init__" = some (some (.ref fI))
  tC : typeIn K (.ref fI) = some (.type "function")
  kC : keepIn K (.ref C) = true
  exC : subIn K (.ref C) (.type "BaseException") = some true
  exV : subIn K (.ref C) (.type "ValueError") = some true
  slf : mroIn K C (.ref C) = some true
  tyC : typeIn K (.ref C) = some (.type "type")
  hdC : hasDictIn K C = true
  sup : ks_superIn K C C "__init__" = some (some (.builtin "ValueError.__init__"))
  gS : mg "super" = none
  opq : nsIn K cStatics "thirdparty.any" = some none
  top : (prog.main.scope.names.lookup ("super" : Str)).isSome = false
  fn : ∃ (oc : Value) (od : Option Addr) (qual : Str) (doc pm : Value) (an : Option Addr) (ct : Value) (osl : Array (Option Value)) (cda cc : Addr) (p1 p2 a1 a2 a3 a4 a5 a6 b1 b2 b3 b4 : Pos), (a3.endLine == a5.line) = true ∧
    K.lookup fI = some ⟨oc, od, .func (ksFn "__init__" qual (xiA p1 p2) (xiB a1 a2 a3 a4 a5 a6 b1 b2 b3 b4) xiS .none .none doc pm an (.ref cda) ct cc), osl⟩ ∧ codeIn K (.ref cda) qual = true ∧
    (∃ (ccl : Value) (cdd : Option Addr) (vs : Array Value) (ccs : Array (Option Value)) (file : Str) (tf : Tok), K.lookup cda = some ⟨ccl, cdd, .fields vs, ccs⟩ ∧ vs[2]? = some (.str file tf) ∧ ((prog.main.file : Str) == file) = true) ∧
    ∃ (cl : Value) (cld : Option Addr) (csl : Array (Option Value)), K.lookup cc = some ⟨cl, cld, .cell (some (.ref C)), csl⟩
section
variable {prog : Program} {w : World} {A : Around} {E : Value → Shared → Prop} {s : Shared} {h₀ : Heap} {L : Addr} {m mg mb : Str → Option Value} {news : List (Addr × Obj)} {K : Frag} {x C D f cc cda so : Addr} {ox : Obj} {odx : Option Obj}
/-- super(), in a frame that is known -/
theorem sup_node {body : List Stmt} {q : Str} {scope : Scope} {p0 p1 : Pos} {attr : Str} {whole : Sem Value} {fd : FuncData} {ar : PySem.Arg} {vs : Array Value} {file : Str} {tf : Tok} {oc ccl cl : Value} {od cdd cld : Option Addr} {osl ccs csl : Array (Option Value)} {cdD : ClassData} {Q : Value → Shared → Prop}
    (fr : Fr h₀ L s.heap m) (kin : K.In h₀) (nw : News h₀ L s.heap news) (hG : s.heap.Ns mainGlobals mg) (hgs : mg "super" = none) (hB : s.heap.Ns builtinsNs mb) (hbs : mb "super" = some (.type "super"))
    (lf : K.lookup f = some ⟨oc, od, .func fd, osl⟩) (hp : (fd.params.posonlyargs ++ fd.params.args).head? = some ar) (hv : m ar.arg = some (.ref x)) (at_ : InstAt s.heap x ox C odx)
    (lc : K.lookup cda = some ⟨ccl, cdd, .fields vs, ccs⟩) (hvs : vs[2]? = some (.str file tf)) (hfile : ((prog.main.file : Str) == file) = true)
    (ll : K.lookup cc = some ⟨cl, cld, .cell (some (.ref D)), csl⟩) (hD : clsIn K D = some cdD) (hsub : mroIn K C (.ref D) = some true)
    (hat : (attr == ("__class__" : Str)) = false) (hks : scope.names.lookup ("super" : Str) = some .globalImplicit) (hkc : scope.names.lookup ("__class__" : Str) = some .free) (hka : scope.names.lookup ar.arg = some .local) (hk : scope.kind = .function)
    (htop : (prog.main.scope.names.lookup ("super" : Str)).isSome = false)
    (go : ∀ so h', Fr h₀ L h' m → News h₀ L h' ((so, ks_superObj D x C) :: news) → (∀ p ∈ news, p.1 < so) → Q (.ref so) { s with heap := h' }) :
    _root_.PySem.wpAt (model prog w) A (.func body (ksEnv q scope L f (.ref cda) cc)) (attributeBase (.Call (.Name "super" p0) [] [] p1) attr (ksEnv q scope L f (.ref cda) cc) whole) Q E s := by
  have kn : K.In s.heap := kin.keeps fr.keep
  obtain ⟨hp0, g, d, t, os⟩ := s
  obtain ⟨oD, hD1, hD2⟩ : ∃ oD, hp0.get? D = some oD ∧ oD.data = .cls cdD := by
    unfold clsIn at hD
    split at hD
    case h_1 c d cd' sl ho => cases hD; exact ⟨_, kn _ _ ho, rfl⟩
    case h_2 => cases hD
  refine ks_wpAt_super_base (env := ksEnv q scope L f (.ref cda) cc) hks hkc hat rfl (kn _ _ lf) rfl hp rfl (kn _ _ lc) rfl hvs hfile htop (ks_loadName_global hk hks (loadGlobal_builtin (env := ksEnv q scope L f (.ref cda) cc) hG hgs hB hbs ⟨rfl, ?_⟩))
  refine wpAny_loadName_free hk hkc rfl ⟨_, kn _ _ ll, rfl⟩ (wpAny_loadName_local hk hka fr.ns hv (ks_wpAny_isType_cls hD1 hD2 ⟨rfl, ?_⟩))
  refine ks_wpAny_call_super hD1 hD2 at_.at_ at_.cls (fun c e => ?_) (looks_mroIn kn hsub) (fun h' e k => ?_)
  · have no := at_.no
    unfold notCls at no; rw [e] at no; exact Bool.noConfusion no
  · obtain ⟨f1, n1, l1⟩ := ks_newsPush (s := ⟨hp0, g, d, t, os⟩) fr nw rfl e k
    exact go _ _ f1 n1 l1
end
/-- what __init__ leaves of a fresh exception at x -/
structure InitLeft (h h' : Heap) (x C dx t1 : Addr) (v : Value) : Prop where
  keep : ∀ b o, b ≠ x → h.get? b = some o → h'.get? b = some o
  obj : h'.get? x = some (excObj C t1 (some dx) .none)
  dbig : h.objs.size ≤ dx
  dne : dx ≠ x
  ns : h'.Ns1 dx (fun y => if y = "what" then some v else none)
structure ErrMade (h h' : Heap) (e C d : Addr) (v : Value) : Prop where
  keep : ∀ b o, h.get? b = some o → h'.get? b = some o
  new : h.objs.size ≤ e
  obj : ∃ t1, h'.get? e = some (excObj C t1 (some d) .none)
  dbig : h.objs.size ≤ d
  dne : d ≠ e
  ns : h'.Ns1 d (fun y => if y = "what" then some v else none)
section
variable {prog : Program} {w : World} {A : Around} {R : Result → Shared → Prop} {s : Shared} {K : Frag} {mg mb : Str → Option Value} {n : Str} {C fI : Addr}
theorem ldM {M : Model} {E : Value → Shared → Prop} {env : PySem.Env} {m : Str → Option Value} {y : Str} {pos : Pos} {v : Value} {Q : Value → Shared → Prop} (hn : s.heap.Ns env.locals m) (hv : m y = some v) (h : Q v s)
    (hk : env.scope.kind = .function) (hl : env.kindOf y = some .local) (hd : (y == ("__debug__" : Str)) = false) : wpAny M A (eval (.Name y pos) env) Q E s := wpAny_Name (wpAny_loadName_local hk hl hn hv h) hd
theorem sup_eval {a1 a2 a3 a4 a5 : Pos} {env : PySem.Env} (hp : (a3.endLine == a5.line) = true) : ∃ pl : Sem Bool, eval (.Call (.Attribute (.Call (.Name "super" a1) [] [] a2) "__init__" a3) [.Name "what" a4] [] a5) env = (do
    let ov ← attributeBase (.Call (.Name "super" a1) [] [] a2) "__init__" env (eval (.Call (.Name "super" a1) [] [] a2) env)
    standAt a3.atName
    let (f, first) ← holding [ov] (getMethod ov "__init__" pl)
    callWith a5 f first (backTo a5 (starEach [.Name "what" a4] env)) []) := by
  refine ⟨(do return (← importBound (.Call (.Name "super" a1) [] [] a2) env).getD true), (arm_eval_Call _ _ _ _ _ _ _).trans ?_⟩
  have e : ∀ (few : Bool) (o : Expr), methodCallPos few o env a3 a5 = pure a5 := fun few o => by
    unfold methodCallPos
    rw [hp, Bool.or_true]; rfl
  unfold methodCall
  simp only [e, pure_bind]
  rfl
theorem err_init (T : XTxt prog K mg n C fI) {x t0 : Addr} {v : Value} (kin : K.In s.heap) (hlim : s.heap.NoLimit) (hG : s.heap.Ns mainGlobals mg) (hB : s.heap.Ns builtinsNs mb) (hbs : mb "super" = some (.type "super"))
    (hx : s.heap.get? x = some (excObj C t0 none .none)) (hnx : K.lookup x = none) (hroom : A.depth < recursionLimit)
    (hq : ∀ h' tk dx t1, InitLeft s.heap h' x C dx t1 v → R (.ok (.ret .none)) { s with heap := h', toks := tk }) :
    codeAny (model prog w) A (.call (.ref fI) ⟨[.ref x, v], []⟩) R s := by
  obtain ⟨oc, od, qual, doc, pm, an, ct, osl, cda, cc, p1, p2, a1, a2, a3, a4, a5, a6, b1, b2, b3, b4, hpos, lf, hcd, ⟨ccl, cdd, vs, ccs, file, tf, lc, hvs, hfile⟩, cl, cld, csl, ll⟩ := T.fn
  obtain ⟨nm, q, N, bs, bm, sn, sub, ab, col, dd, k0, k1, k2, k3, k5, hC, hbm⟩ := T.cls
  have hcl : clsIn K C = some { name := nm, bases := bs, mro := .ref C :: bm, ns := N, qualname := q, hasDict := true, slotNames := sn, subclasses := sub, abstract := ab, collection := col, hasDel := false } := by unfold clsIn; rw [hC] <;> rfl
  refine ks_codeAny_call_defAt (binds := [("self", .ref x), ("what", v)]) (body := xiB a1 a2 a3 a4 a5 a6 b1 b2 b3 b4) hroom (kin _ _ lf) rfl hlim (codeRec_of kin hcd) rfl (BindsTo.of_eq (by first | rfl | with_unfolding_all rfl)) (by show ∀ y ∈ xiS.names, y.2 ≠ .cell; decide) (by show ∀ y ∈ [(Str.ofString "self", Value.ref x), (Str.ofString "what", v)], xiS.names.lookup y.1 = some .local; exact locs (by first | rfl | decide | decide +kernel)) (fun h1 hns k => ?_) rfl rfl rfl
  -- the ground: all that stood, but the exception itself
  have kinG : K.In (hideAll s.heap [x]) := fun a o e => hideAll_get _ (kin _ _ e) (by
    intro z
    rw [List.mem_singleton] at z
    rw [z, hnx] at e; cases e)
  have fr : Fr (hideAll s.heap [x]) s.heap.objs.size h1 (fun y => [(("self" : Str), Value.ref x), ("what", v)].reverse.lookup y) := ⟨hns, fun b o e => k b o (of_hideAll _ e), Nat.le_of_eq (hideAll_size _ _)⟩
  have hxL : x ≠ s.heap.objs.size := Nat.ne_of_lt (Heap.lt_size hx)
  have nw : News (hideAll s.heap [x]) s.heap.objs.size h1 [(x, excObj C t0 none .none)] := fun p hp => by
    rw [List.mem_singleton] at hp
    subst hp
    exact ⟨k _ _ hx, hxL, hideAll_none _ (List.mem_singleton.mpr rfl)⟩
  have keepG : ∀ {h' : Heap} {mm : Str → Option Value}, Fr (hideAll s.heap [x]) s.heap.objs.size h' mm → ∀ b o, b ≠ x → s.heap.get? b = some o → h'.get? b = some o := fun F b o hb e => F.keep b o (hideAll_get _ e (by rw [List.mem_singleton]; exact hb))
  -- super().__init__(what)
  obtain ⟨pl, he⟩ := sup_eval (a1 := a1) (a2 := a2) (a4 := a4) (env := ksEnv qual xiS s.heap.objs.size fI (.ref cda) cc) hpos
  refine ks_wpAt_execs_cons (ks_wpAt_Expr_any (ks_wpAt_MethodCall ?_ he))
  refine sup_node (K := K) (odx := none) (D := C) (C := C) (scope := xiS) (q := qual) fr kinG nw (hG.keeps k) T.gS (hB.keeps k) hbs lf rfl rfl ⟨k _ _ hx, rfl, rfl, trivial⟩ lc hvs hfile ll hcl T.slf (by decide) rfl rfl rfl rfl T.top fun so h2 fr2 nw2 lt2 => ?_
  have x2 : h2.get? x = some (excObj C t0 none .none) := (nw2 (x, excObj C t0 none .none) (by simp)).1
  refine kxs_method (so := so) (odx := none) kxs_ValueError fr2 kinG nw2 (.head _) ⟨x2, rfl, rfl, trivial⟩ T.opq T.sup T.exV (by decide) fun u h3 fr3 nw3 lt3 => ?_
  refine kxs_callWith1 nw3 (.head _) ?_ rfl rfl
  have hne : so ≠ x := Ne.symm (Nat.ne_of_lt (lt2 (x, excObj C t0 none .none) (by simp)))
  have hnu : u ≠ x := Ne.symm (Nat.ne_of_lt (lt3 (x, excObj C t0 none .none) (by simp)))
  refine PySem.Calls.spliced_cons (ldM fr3.ns (v := v) rfl (PySem.Calls.spliced_nil ⟨?_, ?_⟩) rfl rfl rfl)
  · exact kxs_at nw3 (.head _)
  refine kxs_call fr3 kinG nw3 PySem.F.excBase_ValueError T.xi (.head _) (.tail hnu (.tail hne (.head (by simp)))) (by show 1 ≤ sizeLine; rw [sizeLine_eq]; omega) fun t1 h4 fr4 nw4 lt4 => ?_
  -- self.what = what
  refine wpAt_of_wpAny (wpAny_execs_cons (plainObj_wpAny_Assign_Attribute (ldM fr4.ns rfl (ldM fr4.ns rfl ?_ rfl rfl rfl) rfl rfl rfl)))
  have x4 : h4.get? x = some (excObj C t1 none .none) := (nw4 (x, excObj C t1 none .none) (by simp)).1
  refine set_plain (kinG.keeps fr4.keep) (ox := excObj C t1 none .none) (od := none) ⟨x4, rfl, rfl, trivial⟩ T.sa ?_
  refine exc_osa (kinG.keeps fr4.keep) x4 hcl (show refsVE (.ref C :: bm) = true from hbm) rfl T.noN (fun h5 tk5 dx k5 dn dne x5 n5 => ?_)
  refine wpAny_execs_nil (hq h5 tk5 dx t1 ⟨fun b o hb e => k5 b o hb (keepG fr4 b o hb e), x5, ?_, dne, n5⟩)
  exact Nat.le_of_lt (Nat.lt_of_lt_of_le (fr4.ns.lt) dn)
theorem err_made (T : XTxt prog K mg n C fI) {v : Value} (kin : K.In s.heap) (hlim : s.heap.NoLimit) (hG : s.heap.Ns mainGlobals mg) (hB : s.heap.Ns builtinsNs mb) (hbs : mb "super" = some (.type "super")) (hroom : A.depth + 1 < recursionLimit)
    (hq : ∀ h' tk e d, ErrMade s.heap h' e C d v → R (.ok (.ret (.ref e))) { s with heap := h', toks := tk }) : codeAny (model prog w) A (.call (.ref C) ⟨[v], []⟩) R s := by
  obtain ⟨nm, q, N, bs, bm, sn, sub, ab, col, dd, k0, k1, k2, k3, k5, hC, hbm⟩ := T.cls
  obtain ⟨hp, g, dr, tk, os⟩ := s
  have up : ∀ b o, hp.get? b = some o → ((hp.push (kdv_tup [v])).push (excO C hp.objs.size)).get? b = some o := fun b o e => Heap.get?_push_of_some _ (Heap.get?_push_of_some _ e)
  have hget : ((hp.push (kdv_tup [v])).push (excO C hp.objs.size)).get? (hp.objs.size + 1) = some (excO C hp.objs.size) := by heap_get
  have hnx : K.lookup (hp.objs.size + 1) = none := by
    cases e : K.lookup (hp.objs.size + 1) with
    | none => rfl
    | some o => exact absurd (Nat.lt_of_succ_lt (Heap.lt_size (show hp.get? (hp.objs.size + 1) = some o from kin _ _ e))) (Nat.lt_irrefl _)
  refine call_own F.excBase_ValueError (fun Y => refsVE_contains Y bm hbm) (kin _ _ hC) (looks_findIn kin T.iC) (fun self => bind_fn kin self T.tC) (by show 1 ≤ sizeLine; rw [sizeLine_eq]; omega)
    (err_init (s := ⟨(hp.push (kdv_tup [v])).push (excO C hp.objs.size), g, dr, tk, os⟩) T (kin.keeps up) (hlim.keeps up) (hG.keeps up) (hB.keeps up) hbs hget hnx (by show A.depth + 1 < recursionLimit; exact hroom) fun h' tk' dx t1 M => ?_)
  have old : ∀ b o, hp.get? b = some o → h'.get? b = some o := fun b o e => M.keep b o (Nat.ne_of_lt (Nat.lt_succ_of_lt (Heap.lt_size e))) (up b o e)
  have z : hp.objs.size + 1 + 1 ≤ dx := by
    have q := M.dbig
    rw [Heap.size_push, Heap.size_push] at q; exact q
  exact ⟨rfl, hq h' tk' (hp.objs.size + 1) dx ⟨old, Nat.le_succ _, ⟨t1, M.obj⟩, Nat.le_trans (Nat.le_add_right _ 2) z, M.dne, M.ns⟩⟩
end
end
end KL
/-! KL, part j: raise, try, calls of defs. -/
namespace KL
open PySem L2

/-! ### raise InvalidX(e) -/
theorem relO_what {v : V} {u : Value} (r : RelV v u) (f : Str) : RelO (List.lookup f [(("what" : Str), v)]) (if f = "what" then some u else none) := by
  by_cases h : f = "what"
  · rw [h, if_pos rfl]; exact r
  · have q : (f == ("what" : Str)) = false := by simpa using h
    rw [if_neg h, List.lookup_cons, q]; trivial
def tWhat (C : Addr) (ta : TA) : L2.St → Hp → XK → Prop := fun σ H Q => ta σ H fun vs H1 => ∃ v, vs = [v] ∧ ∀ d, H1 d = none → Q (.ref C) (some d) (upd H1 d (.xd [(("what" : Str), v)]))
section
variable {X : Cx} {L : Lx} {W : WX} {C fI : Addr} {n : Str} {k : Nat} {a : Expr} {p pos pos2 : Pos}
open PyProof.Rows PySem.W in
theorem pmk_what {ta : TA} (T : XTxt X.prog X.K X.mg n C fI) (hr : Room k X.A) (ha : PA X [a] ta) (hg : Gl X n) (hdb : (n == ("__debug__" : Str)) = false)
    (hs : starEach [a] X.env = (false, eval a X.env) :: starEach [] X.env := by rfl) (hpl : (backTo pos (starEach [] X.env)).any (·.1) = false := by rfl) : PMk X (.Call (.Name n p) [a] [] pos) (tWhat C ta) := by
  intro pins s σ H Q I h
  refine wpAny_Call_Name_kw (ld_glob I hg T.gC (callWith_K (h₀ := X.base) I.ok.mod.kin T.kC (thn (ha.run pos pins s σ H _ I h) fun us s1 ⟨vs, H1, I1, r1, v, ev, q1⟩ => ⟨I1.kIn, ?_⟩) hs hpl) hdb)
  subst ev
  cases r1 with
  | cons rv rn =>
    cases rn
    show wpAny _ _ (call (.ref C) [_]) _ _ _
    obtain ⟨mb, bm1, bm2⟩ := I1.mod.blt
    have hlim := I1.nolimit
    obtain ⟨hp, g, dr, tk, os⟩ := s1
    refine wpAny_call (err_made T I1.kIn hlim (I1.mod.glob.keeps I1.bk) (bm1.keeps I1.bk) ((bm2 "super" (by decide)).trans (by first | rfl | kernel_rfl)) (by have := hr.dp; omega) fun h' tk' e d M => ?_)
    obtain ⟨t1, hoe⟩ := M.obj
    obtain ⟨G, g1, g2⟩ := restrict h' fun b => decide (b ≠ e)
    have gk : ∀ b, b ≠ e → G.get? b = h'.get? b := fun b hb => g1 b (decide_eq_true hb)
    have ge : G.get? e = none := g2 e (by simp)
    have ob : ObjOk X.prog X.w (upd H1 d (.xd [(("what" : Str), v)])) G d (.xd [(("what" : Str), v)]) := ⟨_, M.ns.at (fun o q => (gk d M.dne).trans q), fun f => relO_what rv f⟩
    have J : Inv X pins σ (upd H1 d (.xd [(("what" : Str), v)])) ⟨G, g, dr, tk', os⟩ := I1.laid (t' := tk') (fun b o q => (gk b (Nat.ne_of_lt (Nat.lt_of_lt_of_le (Heap.lt_size q) M.new))).trans (M.keep b o q)) M.dbig ob
    refine ⟨e, _, _, ⟨G, g, dr, tk', os⟩, _, .ref C, some d, rfl, J, fun b o q => ?_, ge, hoe, ⟨rfl, rfl⟩, rfl, rfl, ?_, rfl, I1.bare, raises_own T.exC T.tyC, q1 d (I1.hok.fresh M.dbig)⟩
    · by_cases hb : b = e
      · exact absurd (show G.get? b = some o from q) (by rw [hb, ge]; intro z; cases z)
      · exact (gk b hb).symm.trans q
    · rw [upd_ne (Ne.symm M.dne)]; exact I1.hok.fresh M.new
def raiseM (cls f : Str) (m : DEnv → Res D) : DEnv → SRes := fun Δ => (m Δ).s fun d Δ1 => .ex (.mk cls [(f, d)]) Δ1
theorem s_raise {ma : DEnv → Res D} (hc : X.calm = true) (T : XTxt X.prog X.K X.mg n C fI) (hr : Room k X.A) (tk : Takes X W) (hct : L.ct n = some C) (ha : DE X L W a ma) (hg : Gl X n) (hdb : (n == ("__debug__" : Str)) = false := by decide)
    (hs : starEach [a] X.env = (false, eval a X.env) :: starEach [] X.env := by rfl) (hpl : (backTo pos (starEach [] X.env)).any (·.1) = false := by rfl) : DS X L W (.Raise (some (.Call (.Name n p) [a] [] pos)) none pos2) (raiseM n "what" ma) := by
  obtain ⟨te, p1, s1⟩ := ha.ex
  refine ⟨_, ps_raise hc tk (pmk_what T hr (pa_cons p1 pa_nil hs) hg hdb hs hpl), fun σ Δ F H D env w => ?_⟩
  refine s1 σ Δ F H _ env ((Want.ofS w).mono fun d Δ1 F1 H1 env1 w1 v r => ⟨v, rfl, fun dd hd => ?_⟩)
  have g : Gro F1 H1 (upd F1 dd (.xd [(("what" : Str), v)])) (upd H1 dd (.xd [(("what" : Str), v)])) := Gro.new env1.ex hd
  refine w1 σ (.ref C) (some dd) _ _ (env1.gro g) (.gro g) ⟨C, dd, [(("what" : Str), v)], rfl, hct, rfl, upd_same, rfl, fun i a b h1 h2 => ?_, fun i a b h1 h2 => ?_⟩
  · cases i with
    | zero => cases h1; cases h2; rfl
    | succ i => simp at h1
  · cases i with
    | zero => cases h1; cases h2; exact r.mono g.f
    | succ i => simp at h1

/-! ### err.f within an except suite -/
def xfM (i : Nat) (f : Str) : DEnv → Res D := fun Δ => match Δ[i]? with
  | some (.xc (.mk _ fs)) => .opt (fs.lookup f) Δ
  | _ => .stuck
theorem lookup_rep {K : PySem.W.Frag} {F : Hp} {f : Str} {d : D} : ∀ {fvs : List (Str × V)} {fs : List (Str × D)}, fvs.length = fs.length → (∀ (i : Nat) p q, fvs[i]? = some p → fs[i]? = some q → p.1 = q.1) → (∀ (i : Nat) p q, fvs[i]? = some p → fs[i]? = some q → Rep K F p.2 q.2) →
    fs.lookup f = some d → ∃ v, fvs.lookup f = some v ∧ Rep K F v d
  | [], [], _, _, _, h => by cases h
  | p :: fvs, q :: fs, hl, hk, hv, h => by
    have e := hk 0 p q rfl rfl
    rw [List.lookup_cons] at h
    obtain ⟨p1, p2⟩ := p
    obtain ⟨q1, q2⟩ := q
    cases e
    rw [List.lookup_cons]
    cases c : f == p1 with
    | true => rw [c] at h; cases h; exact ⟨p2, rfl, hv 0 _ _ rfl rfl⟩
    | false => rw [c] at h; exact lookup_rep (by simpa using hl) (fun i a b => hk (i + 1) a b) (fun i a b => hv (i + 1) a b) h
theorem d_xf {oe : Obj} {cls : Value} {d : Option Addr} {e : Addr} {pn : List (Addr × Obj)} {y f : Str} {i : Nat} {W : WX} (hgood : ∀ m C, L.ct m = some C → XfC X.K C ∧ PySem.W.findIn X.K (.ref C) f = some none) (hz : Zc cls d oe) (hf : ∃ vs, oe.data = .fields vs)
    (hN : X.N[i]? = some y) (hv : Vis X.env.scope y) (hd : (y == ("__debug__" : Str)) = false := by decide) (hcd : (y == ("__classdict__" : Str)) = false := by decide) (hb : attributeBase (.Name y p) f X.env (eval (.Name y p) X.env) = eval (.Name y p) X.env := by rfl) :
    DE (X.suite e ((e, oe) :: pn)) { L with xa := some (e, cls, d) } W (.Attribute (.Name y p) f pos) (xfM i f) := by
  by_cases hc : ∃ m C, L.ct m = some C ∧ cls = .ref C
  · obtain ⟨m, C, h1, h2⟩ := hc
    obtain ⟨T, hno⟩ := hgood m C h1
    refine ⟨_, pe_xf (C := C) T hno hz hf (pe_var hN hv hd hcd) hb, fun σ Δ F H Q env w => ?_⟩
    unfold xfM at w
    split at w
    case h_2 => exact w.elim
    rename_i c0 fs hi
    obtain ⟨a1, c1, dd1, e1, e2, C1, dx, fvs, e3, e4, e5, e6, e7, e8, e9⟩ := env.cells i _ hi
    cases e1
    cases q : fs.lookup f with
    | none => rw [q] at w; exact w.elim
    | some dv =>
      rw [q] at w
      obtain ⟨v, g1, g2⟩ := lookup_rep e7 e8 e9 q
      exact ⟨_, slot_some e2, rfl, h2, dx, fvs, v, e5, env.ex _ _ e6, g1, w F H env .refl v g2⟩
  · refine ⟨fun _ _ _ => False, ⟨fun pins s σ H Q I h => h.elim⟩, fun σ Δ F H Q env w => ?_⟩
    unfold xfM at w
    split at w
    case h_2 => exact w.elim
    rename_i c0 fs hi
    obtain ⟨a1, c1, dd1, e1, e2, C1, dx, fvs, e3, e4, e5, e6, e7, e8, e9⟩ := env.cells i _ hi
    cases e1
    exact hc ⟨_, _, e4, e3⟩
end

/-! ### try: .. except x as n: .. -/
def noXc (Δ : DEnv) : Bool := Δ.all fun c => match c with | .xc _ => false | _ => true
def SRes.del (i : Nat) : SRes → SRes
  | .nx Δ => if noXc (Δ.set i .no) && canSet Δ i then .nx (Δ.set i .no) else .stuck
  | .bk Δ => if noXc (Δ.set i .no) && canSet Δ i then .bk (Δ.set i .no) else .stuck
  | .ct Δ => if noXc (Δ.set i .no) && canSet Δ i then .ct (Δ.set i .no) else .stuck
  | .rt d Δ => if noXc (Δ.set i .no) && canSet Δ i then .rt d (Δ.set i .no) else .stuck
  | _ => .stuck
def tryM (i : Nat) (hm : Str → Option Bool) (mb ms : DEnv → SRes) : DEnv → SRes := fun Δ => match mb Δ with
  | .ex (.mk n fs) Δ1 => match hm n with
    | some true => if noXc Δ1 && canSet Δ1 i then SRes.del i (ms (Δ1.set i (.xc (.mk n fs)))) else .stuck
    | some false => .ex (.mk n fs) Δ1
    | none => .stuck
  | r => r
section
variable {X : Cx} {L : Lx} {W : WX} {σ σ' : L2.St} {Δ Δ' : DEnv} {F F' H H' : Hp}
theorem EnvOk.xa {ya : Option (Addr × Value × Option Addr)} (env : EnvOk L F σ Δ H) (h : noXc Δ = true) : EnvOk { L with xa := ya } F σ Δ H := by
  refine ⟨env.ex, env.len, fun i c hc => ?_, env.apart⟩
  have k := env.cells i c hc
  cases c with
  | xc x => have := List.all_eq_true.mp h _ (List.mem_of_getElem? hc); cases this
  | _ => exact k
theorem EnvOk.drop {i : Nat} {u : Option V} (env : EnvOk L F σ Δ H) (hi : canSet Δ i = true) : EnvOk L F (σ.set i u) (Δ.set i .no) H := by
  have hs : i < σ.length := by rw [env.len]; exact canSet_lt hi
  have sl : ∀ j, j ≠ i → slot (σ.set i u) j = slot σ j := fun j hj => by unfold slot; rw [List.getElem?_set_ne (Ne.symm hj)]
  refine ⟨env.ex, by rw [List.length_set, List.length_set]; exact env.len, fun j c hj => ?_, fun j k c1 c2 xs ys a hjk hj hk h1 h2 e1 e2 => ?_⟩
  · rcases list_set_get hj with ⟨rfl, rfl⟩ | ⟨nj, hj⟩
    · trivial
    · rw [sl j nj]; exact env.cells j c hj
  · rcases list_set_get hj with ⟨_, rfl⟩ | ⟨nj, gj⟩
    · cases h1
    rcases list_set_get hk with ⟨_, rfl⟩ | ⟨nk, gk⟩
    · cases h2
    rw [sl j nj] at e1
    rw [sl k nk] at e2
    exact env.apart j k c1 c2 xs ys a hjk gj gk h1 h2 e1 e2
theorem Step.drop {σ1 : L2.St} {Δ1 : DEnv} {F1 H1 : Hp} {i : Nat} {u : Option V} (s : Step σ Δ F H σ1 Δ1 F1 H1) (hi : canSet Δ1 i = true) : Step σ Δ F H (σ1.set i u) (Δ1.set i .no) F1 H1 := by
  have sl : ∀ j, j ≠ i → slot (σ1.set i u) j = slot σ1 j := fun j hj => by unfold slot; rw [List.getElem?_set_ne (Ne.symm hj)]
  refine ⟨s.fr, s.kp, s.fn, fun b ⟨j, c', ys, hj, h1, e⟩ => ?_, fun j ys hj => ?_, fun j ys hj => ?_, s.th⟩
  · rcases list_set_get hj with ⟨_, rfl⟩ | ⟨nj, hj⟩
    · cases h1
    · rw [sl j nj] at e; exact s.ow b ⟨j, c', ys, hj, h1, e⟩
  · obtain ⟨xs', e1, e2⟩ := s.pa j ys hj
    have nj : j ≠ i := fun z => by subst z; exact absurd e1 (canSet_pa hi)
    exact ⟨xs', by rw [List.getElem?_set_ne (Ne.symm nj)]; exact e1, by rw [sl j nj]; exact e2⟩
  · rcases list_set_get hj with ⟨_, e⟩ | ⟨nj, hj⟩
    · cases e
    · exact s.pb j ys hj
theorem getSet_slot {i : Nat} {v : V} {σ : L2.St} : (σ.set i v) = (σ.set i v) := rfl
theorem EnvOk.rt {i : Nat} (env : EnvOk L F σ Δ H) (hi : canSet Δ i = true) : EnvOk L F σ (Δ.set i .no) H := by
  have h := env.drop (u := (σ[i]?).join) hi
  have hs : i < σ.length := by rw [env.len]; exact canSet_lt hi
  have e : σ.set i ((σ[i]?).join) = σ := by
    rw [List.getElem?_eq_getElem hs]
    exact List.set_getElem_self hs
  rw [e] at h; exact h
theorem Step.rt {σ1 : L2.St} {Δ1 : DEnv} {F1 H1 : Hp} {i : Nat} (s : Step σ Δ F H σ1 Δ1 F1 H1) (hl : σ1.length = Δ1.length) (hi : canSet Δ1 i = true) : Step σ Δ F H σ1 (Δ1.set i .no) F1 H1 := by
  have h := s.drop (u := (σ1[i]?).join) hi
  have hs : i < σ1.length := by rw [hl]; exact canSet_lt hi
  have e : σ1.set i ((σ1[i]?).join) = σ1 := by
    rw [List.getElem?_eq_getElem hs]
    exact List.set_getElem_self hs
  rw [e] at h; exact h
/-- the weakest reading of a list of statements, in all contexts of a kind -/
def inf {ι : Type} (good : ι → Prop) (Xs : ι → Cx) (sts : List Stmt) : TS := fun D σ H => ∀ i, good i → ∃ t, PSs (Xs i) sts t ∧ t D σ H
theorem inf_pss {ι : Type} {good : ι → Prop} {Xs : ι → Cx} {sts : List Stmt} {i : ι} (h : good i) : PSs (Xs i) sts (inf good Xs sts) := ⟨fun pins s σ H D I w => let ⟨t, p, q⟩ := w i h; p.run pins s σ H D I q⟩
theorem inf_snd {ι : Type} {good : ι → Prop} {Xs : ι → Cx} {sts : List Stmt} {m : DEnv → SRes} (h : ∀ i, good i → DSs (Xs i) L W sts m) : SndS L W (inf good Xs sts) m := fun σ Δ F H D env w i hi => let ⟨t, p, sd⟩ := (h i hi).ex; ⟨t, p, sd σ Δ F H D env w⟩
theorem s_try {x n : Str} {c : Value} {i : Nat} {body suite : List Stmt} {b0 : Stmt} {np pos pos' : Pos} {hm : Str → Option Bool} {mb ms : DEnv → SRes} (hs : X.stack = X.env :: X.outer) (hf : X.env.frame = some X.env.locals) (hN : X.N.Nodup) (hi : X.N[i]? = some n) (hln : X.env.kindOf n = some .local) (hc : Names X x c) (tk : Takes X W)
    (hh : ∀ m b, hm m = some b → ∀ C, L.ct m = some C → PySem.W.exmOne X.K (.ref C) c = some b)
    (hb : ∀ (W' : WX) (pn : List (Addr × Obj)) (xe : Value → Shared → Prop), Takes (X.tr pn xe) W' → PassesOwn (model X.prog X.w) X.A X.env xe → DSs (X.tr pn xe) L W' body mb)
    (hsu : ∀ (a : Addr) (oe : Obj) (cls : Value) (d : Option Addr) (pn : List (Addr × Obj)), Zc cls d oe → (∃ vs, oe.data = .fields vs) → DSs (X.suite a ((a, oe) :: pn)) { L with xa := some (a, cls, d) } (fun _ _ _ _ => False) (b0 :: suite) ms) :
    DS X L W (.Try body [.ExceptHandler (some (.Name x np)) (some n) (b0 :: suite) pos'] [] [] pos) (tryM i hm mb ms) := by
  refine ⟨_, ps_try_as (ts := fun a cls d => inf (ι := Obj × List (Addr × Obj)) (fun z => Zc cls d z.1 ∧ ∃ vs, z.1.data = .fields vs) (fun z => X.suite a ((a, z.1) :: z.2)) (b0 :: suite)) (tb := fun W' => inf (ι := List (Addr × Obj) × (Value → Shared → Prop)) (fun z => Takes (X.tr z.1 z.2) W' ∧ PassesOwn (model X.prog X.w) X.A X.env z.2) (fun z => X.tr z.1 z.2) body)
    hs hf hN hi hln hc tk (fun W' pn xe t1 t2 => inf_pss (Xs := fun z : List (Addr × Obj) × (Value → Shared → Prop) => X.tr z.1 z.2) (i := (pn, xe)) (And.intro t1 t2)) (fun a oe cls d pn hz hf => inf_pss (Xs := fun z : Obj × List (Addr × Obj) => X.suite a ((a, z.1) :: z.2)) (i := (oe, pn)) (And.intro hz hf)), fun σ Δ F H D env w => ?_⟩
  refine inf_snd (L := L) (m := mb) (fun z hz => hb _ z.1 z.2 hz.1 hz.2) σ Δ F H D env ?_
  unfold tryM at w
  generalize mb Δ = r at w ⊢
  cases r with
  | stuck => exact w
  | nx Δ1 => exact w
  | rt d Δ1 => exact w
  | rf d Δ1 => exact w
  | bk Δ1 => exact w
  | ct Δ1 => exact w
  | ex x0 Δ1 =>
    obtain ⟨n0, fs⟩ := x0
    intro σ1 cls dd F1 H1 env1 st1 xo
    have xo' := xo
    obtain ⟨C0, d0, fvs, e1, e2, e3, e4, e5, e6, e7⟩ := xo
    replace w : WantS L W σ Δ F H (match hm n0 with
      | some true => if noXc Δ1 && canSet Δ1 i then SRes.del i (ms (Δ1.set i (.xc (.mk n0 fs)))) else .stuck
      | some false => .ex (.mk n0 fs) Δ1
      | none => .stuck) D := w
    cases q : hm n0 with
    | none => rw [q] at w; exact w.elim
    | some b =>
      have hx := hh n0 b q C0 e2
      rw [← e1] at hx
      cases b with
      | false => rw [q] at w; exact ⟨false, hx, fun z => Bool.noConfusion z, fun _ => w σ1 cls dd F1 H1 env1 st1 xo'⟩
      | true =>
        rw [q] at w
        refine ⟨true, hx, fun _ a ha => ?_, fun z => Bool.noConfusion z⟩
        replace w : WantS L W σ Δ F H (if noXc Δ1 && canSet Δ1 i then SRes.del i (ms (Δ1.set i (.xc (.mk n0 fs)))) else .stuck) D := w
        split at w
        case isFalse => exact w.elim
        rename_i hg
        obtain ⟨g1, g2⟩ := Bool.and_eq_true_iff.mp hg
        have env2 : EnvOk { L with xa := some (a, cls, dd) } F1 (σ1.set i (some (.ref a))) (Δ1.set i (.xc (.mk n0 fs))) H1 := (env1.xa g1).setC g2 ⟨a, cls, dd, rfl, rfl, xo'⟩ fun xs b h => by cases h
        have st2 : Step σ Δ F H (σ1.set i (some (.ref a))) (Δ1.set i (.xc (.mk n0 fs))) F1 H1 := st1.setC env1.len g2 (fun xs h => by cases h) fun xs h => by cases h
        refine inf_snd (L := { L with xa := some (a, cls, dd) }) (m := ms) (fun z hz => hsu a z.1 cls dd z.2 hz.1 hz.2) _ _ F1 H1 _ env2 ?_
        have back : ∀ {σ' : L2.St} {Δ' : DEnv} {F' H' : Hp}, EnvOk { L with xa := some (a, cls, dd) } F' σ' Δ' H' → noXc (Δ'.set i .no) = true → canSet Δ' i = true → EnvOk L F' (σ'.set i none) (Δ'.set i .no) H' ∧ EnvOk L F' σ' (Δ'.set i .no) H' := fun e h1 h2 =>
          ⟨(e.drop h2).xa (ya := L.xa) h1, (e.rt h2).xa (ya := L.xa) h1⟩
        generalize ms (Δ1.set i (.xc (.mk n0 fs))) = r at w ⊢
        cases r with
        | stuck => exact w
        | ex _ _ => exact w.elim
        | rf _ _ => exact w.elim
        | nx Δ' =>
          intro σ' F' H' e t
          replace w : WantS L W σ Δ F H (if noXc (Δ'.set i .no) && canSet Δ' i then SRes.nx (Δ'.set i .no) else .stuck) D := w
          split at w
          · rename_i hz; obtain ⟨z1, z2⟩ := Bool.and_eq_true_iff.mp hz
            exact w _ F' H' (back e z1 z2).1 ((st2.trans t).drop z2)
          · exact w.elim
        | bk Δ' =>
          intro σ' F' H' e t
          replace w : WantS L W σ Δ F H (if noXc (Δ'.set i .no) && canSet Δ' i then SRes.bk (Δ'.set i .no) else .stuck) D := w
          split at w
          · rename_i hz; obtain ⟨z1, z2⟩ := Bool.and_eq_true_iff.mp hz
            exact w _ F' H' (back e z1 z2).1 ((st2.trans t).drop z2)
          · exact w.elim
        | ct Δ' =>
          intro σ' F' H' e t
          replace w : WantS L W σ Δ F H (if noXc (Δ'.set i .no) && canSet Δ' i then SRes.ct (Δ'.set i .no) else .stuck) D := w
          split at w
          · rename_i hz; obtain ⟨z1, z2⟩ := Bool.and_eq_true_iff.mp hz
            exact w _ F' H' (back e z1 z2).1 ((st2.trans t).drop z2)
          · exact w.elim
        | rt d Δ' =>
          intro σ' v F' H' e t r
          replace w : WantS L W σ Δ F H (if noXc (Δ'.set i .no) && canSet Δ' i then SRes.rt d (Δ'.set i .no) else .stuck) D := w
          split at w
          · rename_i hz; obtain ⟨z1, z2⟩ := Bool.and_eq_true_iff.mp hz
            exact w _ v F' H' (back e z1 z2).2 ((st2.trans t).rt e.len z2) r
          · exact w.elim
end

/-! ### calls of defs -/
section
variable {X : Cx} {L : Lx} {W : WX} {k : Nat} {f : Addr} {fd : FuncData} {ps : List Str} {mf : DEnv → FRes} {x : Str} {p pos : Pos} {e : Expr} {es : List Expr} {m : DEnv → Res (List Arg)}
theorem d_call (Fn : FnOk X.prog X.w X.K X.mg X.base (L2.CX X.prog X.w) k f fd ps (spD L ps.length mf)) (hr : Room k X.A) (hg : Gl X x) (hm : X.mg x = some (.ref f)) (hk : PySem.W.keepIn X.K (.ref f) = true) (hb : Binds X.K fd ps []) (tk : Takes X W) (ha : DC X L W (e :: es) m)
    (hl : (e :: es).length = ps.length := by rfl) (hdb : (x == ("__debug__" : Str)) = false := by decide) (he : starEach (e :: es) X.env = (false, eval e X.env) :: starEach es X.env := by rfl) (hpl : (backTo pos (starEach es X.env)).any (·.1) = false := by rfl) :
    DE X L W (.Call (.Name x p) (e :: es) [] pos) (callM mf m) := by
  obtain ⟨ta, p1, s1⟩ := ha.ex
  exact ⟨_, pe_callS Fn hr hg hm hk hb (fun σ => passAt tk σ) p1 hdb he hpl, snd_call (fun zs Δ Δ1 h => (ha.ln Δ zs Δ1 h).trans hl) s1⟩
theorem d_callF (Fn : FnOk X.prog X.w X.K X.mg X.base (L2.CX X.prog X.w) k f fd ps (spD L ps.length mf)) (hr : Room k X.A) (hg : Gl X x) (hm : X.mg x = some (.ref f)) (hk : PySem.W.keepIn X.K (.ref f) = true) (hb : Binds X.K fd ps []) (tk : Takes X W) (ha : DC X L W (e :: es) m)
    (hl : (e :: es).length = ps.length := by rfl) (hdb : (x == ("__debug__" : Str)) = false := by decide) (he : starEach (e :: es) X.env = (false, eval e X.env) :: starEach es X.env := by rfl) (hpl : (backTo pos (starEach es X.env)).any (·.1) = false := by rfl) :
    DF X L W (.Call (.Name x p) (e :: es) [] pos) (callF mf m) := by
  obtain ⟨ta, p1, s1⟩ := ha.ex
  exact ⟨_, pe_callS Fn hr hg hm hk hb (fun σ => passAt tk σ) p1 hdb he hpl, snd_callF (fun zs Δ Δ1 h => (ha.ln Δ zs Δ1 h).trans hl) s1⟩
/-- a def that takes nothing -/
theorem d_call0 (Fn : FnOk X.prog X.w X.K X.mg X.base (L2.CX X.prog X.w) k f fd ps (spD L ps.length mf)) (hr : Room k X.A) (hg : Gl X x) (hm : X.mg x = some (.ref f)) (hk : PySem.W.keepIn X.K (.ref f) = true) (hb : Binds X.K fd ps []) (tk : Takes X W)
    (hl : 0 = ps.length := by rfl) (hdb : (x == ("__debug__" : Str)) = false := by decide) : DE X L W (.Call (.Name x p) [] [] pos) (callM mf fun Δ => .ok [] Δ) :=
  ⟨tCallS (spD L ps.length mf) (WE W) tNil, ⟨fun pins s σ H Q I h => wpAny_Call_Name_kw (ld_glob I hg hm (PySem.W.callWith_K0 I.kIn hk (run_fnS (us := []) Fn hr hb (passAt tk σ) I .nil h)) hdb)⟩,
    snd_call (fun zs Δ Δ1 h => by cases h; exact hl) fun σ Δ F H Q env w => w F H env .refl [] ⟨rfl, fun k v z h => by simp at h⟩⟩
end
end KL
/-! KL, part k: further operations. -/
namespace KL
open PySem L2
section
variable {X : Cx} {L : Lx} {W : WX} {σ : L2.St} {Δ : DEnv} {F H : Hp} {e a b c : Expr} {es : List Expr} {me ma mb mc : DEnv → Res D} {p pos : Pos} {x : Str}
/-! ### -e -/
def negM (m : DEnv → Res D) : DEnv → Res D := fun Δ => (m Δ).bind fun d Δ1 => match d with
  | .int i => .ok (.int (-i)) Δ1
  | _ => .stuck
theorem d_neg (h : DE X L W e me) : DE X L W (.UnaryOp .USub e pos) (negM me) := by
  obtain ⟨te, p1, s1⟩ := h.ex
  refine ⟨_, pe_un un_neg p1, fun σ Δ F H Q env w => s1 σ Δ F H _ env (w.bind.mono fun d Δ1 F1 H1 env1 w1 v r => ?_)⟩
  cases d with
  | int i => cases r; exact ⟨i, rfl, w1 F1 H1 env1 .refl _ (.int _)⟩
  | _ => exact w1.elim
/-! ### range(a, b, c) -/
def rangeC (lo c : Int) (n : Nat) : List D := (List.range n).map fun i => .int (lo + (i : Nat) * c)
theorem itok_rangeC {lo c : Int} {n : Nat} : ItOk L F (Itc lo c n) (rangeC lo c n) := by
  intro i F' H' e1 e2
  refine ⟨fun d hd => ?_, fun hl => ?_⟩
  · unfold rangeC at hd
    rw [List.getElem?_map] at hd
    cases q : (List.range n)[i]? with
    | none => rw [q] at hd; cases hd
    | some j =>
      rw [q] at hd
      cases hd
      have hi : i < n := by have := (List.getElem?_eq_some_iff.mp q).1; simpa using this
      have hj : j = i := by rw [List.getElem?_range hi] at q; cases q; rfl
      subst hj
      refine ⟨hi, fun x H'' y => ?_⟩
      obtain ⟨rfl, rfl⟩ := y
      exact ⟨F', .refl e2, .int _⟩
  · have : (rangeC lo c n).length = n := by simp [rangeC]
    show n ≤ i
    omega
def range3M (ma mb mc : DEnv → Res D) : DEnv → Res (List D) := fun Δ => (ma Δ).bind fun d Δ1 => (mb Δ1).bind fun d2 Δ2 => (mc Δ2).bind fun d3 Δ3 => match d, d2, d3 with
  | .int i, .int j, .int k => gd (decide (k ≠ 0 ∧ k.natAbs < 1073741824 ∧ Builtin.Range.small i j k = true ∧ 0 ≤ Builtin.Range.rangeSize i j k)) (.ok (rangeC i k (Builtin.Range.rangeSize i j k).toNat) Δ3)
  | _, _, _ => .stuck
theorem i_range3 {tg : Expr} (hg : Gl X "range") (hm : X.mg "range" = none) (h : DE X L W a ma) (h2 : DE X L W b mb) (h3 : DE X L W c mc)
    (hs : starEach [a, b, c] X.env = (false, eval a X.env) :: starEach [b, c] X.env := by rfl) (hs2 : starEach [b, c] X.env = (false, eval b X.env) :: starEach [c] X.env := by rfl) (hs3 : starEach [c] X.env = (false, eval c X.env) :: starEach [] X.env := by rfl)
    (hpl : (backTo pos (starEach [b, c] X.env)).any (·.1) = false := by rfl) : DI X L W tg (.Call (.Name "range" p) [a, b, c] [] pos) (range3M ma mb mc) := by
  obtain ⟨ta, p1, s1⟩ := h.ex
  obtain ⟨tb, p2, s2⟩ := h2.ex
  obtain ⟨tc, p3, s3⟩ := h3.ex
  refine ⟨_, pi_range3 hg hm (pa_cons p1 (pa_cons p2 (pa_cons p3 pa_nil hs3) hs2) hs) hs hpl, fun σ Δ F H R env w => ?_⟩
  refine s1 σ Δ F H _ env (w.bind.mono fun d Δ1 F1 H1 env1 w1 v r => ?_)
  refine s2 σ Δ1 F1 H1 _ env1 (w1.bind.mono fun d2 Δ2 F2 H2 env2 w2 v2 r2 => ?_)
  refine s3 σ Δ2 F2 H2 _ env2 (w2.bind.mono fun d3 Δ3 F3 H3 env3 w3 v3 r3 => ?_)
  cases d with
  | int i =>
    cases d2 with
    | int j =>
      cases d3 with
      | int k =>
        cases r; cases r2; cases r3
        replace w3 : Want L W σ Δ3 F3 H3 (gd (decide (k ≠ 0 ∧ k.natAbs < 1073741824 ∧ Builtin.Range.small i j k = true ∧ 0 ≤ Builtin.Range.rangeSize i j k)) (.ok (rangeC i k (Builtin.Range.rangeSize i j k).toNat) Δ3)) _ := w3
        unfold gd at w3
        split at w3
        · rename_i hb
          obtain ⟨b1, b2, b3, b4⟩ := of_decide_eq_true hb
          exact ⟨i, j, k, _, rfl, ⟨b1, b2, b3, by omega⟩, w3 F3 H3 env3 .refl _ itok_rangeC⟩
        · exact w3.elim
      | _ => exact w3.elim
    | _ => exact w3.elim
  | _ => exact w3.elim

/-! ### methods of a text with one argument -/
def sm1M (g : Str → D → Option D) (mo me : DEnv → Res D) : DEnv → Res D := fun Δ => (mo Δ).bind fun d Δ1 => match d with
  | .str z => (me Δ1).bind fun y Δ2 => .opt (g z y) Δ2
  | _ => .stuck
/-- the method's rule gives what g says -/
def SM1 (L : Lx) (r : V → List V → Hp → VK → Prop) (g : Str → D → Option D) : Prop := ∀ (F H : Hp) (z : Str) (y : V) (dy d : D) (Q : VK), Ex F H → g z dy = some d → RepR L F H y dy → (∀ v F' H', Gro F H F' H' → Rep L.K F' v d → Q v H') → r (.str z) [y] H Q
theorem d_sm1 {o : Expr} {mo : DEnv → Res D} {id : String} {name : Str} {apos : Pos} {r : V → List V → Hp → VK → Prop} {g : Str → D → Option D} (slot : Slot "str" name id) (ty : typeOf (.builtin id) = pure (.type "method_descriptor")) (rule : MtR X id r) (hg : SM1 L r g)
    (ho : DE X L W o mo) (h : DR X L W e me) (hs : starEach [e] X.env = [(false, eval e X.env)] := by rfl) (hbase : attributeBase o name X.env (eval o X.env) = eval o X.env := by rfl) (hline : (apos.endLine == pos.line) = true := by rfl) :
    DE X L W (.Call (.Attribute o name apos) [e] [] pos) (sm1M g mo me) := by
  obtain ⟨to, p1, s1⟩ := ho.ex
  obtain ⟨te, p2, s2⟩ := h.ex
  refine ⟨_, pe_m1 slot ty rule p1 p2 hs hbase hline, fun σ Δ F H Q env w => ?_⟩
  refine s1 σ Δ F H _ env (w.bind.mono fun d Δ1 F1 H1 env1 w1 v rv => ?_)
  cases d with
  | str z =>
    cases rv
    refine ⟨⟨z, rfl⟩, s2 σ Δ1 F1 H1 _ env1 ?_⟩
    have w2 : Want L W σ Δ1 F1 H1 ((me Δ1).bind fun y Δ2 => .opt (g z y) Δ2) _ := w1
    refine w2.bind.mono fun y Δ2 F2 H2 env2 w3 u ru => ?_
    cases q : g z y with
    | none => rw [q] at w3; exact w3.elim
    | some d => rw [q] at w3; exact hg F2 H2 z u y d Q env2.ex q ru fun v F' H' gr rv => w3 F' H' (env2.gro gr) (.gro gr) v rv
  | _ => exact w1.elim
/-- s.index(t) -/
def sindexD : Str → D → Option D := fun z y => match y with
  | .str t => match Builtin.Str.occurrences z t 0 z.length 1 with
    | i :: _ => some (.int (i : Nat))
    | [] => none
  | _ => none
theorem sm_index : SM1 L (fun x xs H Q => ∃ a b i rest, x = .str a ∧ xs = [.str b] ∧ Builtin.Str.occurrences a b 0 a.length 1 = i :: rest ∧ Q (.int (i : Nat)) H) sindexD := by
  intro F H z y dy d Q ex hf ry q
  unfold sindexD at hf
  split at hf
  · split at hf
    · rename_i i rest ho
      cases hf
      exact ⟨z, _, i, rest, rfl, by rw [ry.str], ho, q _ F H (.refl ex) (.int _)⟩
    · cases hf
  · cases hf

/-! ### t.index(x), t a tuple of texts of the module -/
def tupIdxM (ys : List Str) (m : DEnv → Res D) : DEnv → Res D := fun Δ => (m Δ).bind fun d Δ1 => match d with
  | .str z => match ys.findIdx? (· == z) with
    | some j => .ok (.int (j : Nat)) Δ1
    | none => .stuck
  | _ => .stuck
theorem d_tupIdx {y n : Str} {apos : Pos} {t : Addr} {o : Obj} {ys : List Str} (hnm : n = "index") (hg : Gl X y) (hm : X.mg y = some (.ref t)) (hd : (y == ("__debug__" : Str)) = false) (hk : X.K.lookup t = some o) (hc : o.cls = .type "tuple") (hdi : o.dict = none) (ht : ∀ H, SqT X.K H t (ys.map V.str)) (h : DE X L W e me)
    (hbase : attributeBase (.Name y p) n X.env (eval (.Name y p) X.env) = eval (.Name y p) X.env := by rfl)
    (hfew : ((backTo pos (starEach (e :: []) X.env)).all (fun x => !x.1) && (backToKw pos (keywordEach [] X.env)).all (fun x => x.1.isSome) && decide ((e :: []).length + ([] : List Keyword).length + (if ([] : List Keyword).isEmpty then 0 else 1) < 30)) = true := by rfl)
    (hline : (apos.endLine == pos.line) = true := by rfl) (hs : starEach (e :: []) X.env = (false, eval e X.env) :: starEach [] X.env := by rfl) (hplain : (backTo pos (starEach [] X.env)).any (·.1) = false := by rfl) :
    DE X L W (.Call (.Attribute (.Name y p) n apos) [e] [] pos) (tupIdxM ys me) := by
  subst hnm
  obtain ⟨te, p1, s1⟩ := h.ex
  refine ⟨_, pe_bm PySem.F.plainAttrs_tuple PySem.F.slot_tuple_index PySem.F.type_tuple_index mt_tup_index (pe_glob (v := .ref t) hg hm rfl hd) (pa_cons p1 pa_nil hs) hbase hfew hline hs hplain, fun σ Δ F H Q env w => ?_⟩
  refine ⟨.inr (.inl ⟨rfl, o, hk, hc, hdi⟩), s1 σ Δ F H _ env (w.bind.mono fun d Δ1 F1 H1 env1 w1 v rv => ?_)⟩
  cases d with
  | str z =>
    cases rv
    replace w1 : Want L W σ Δ1 F1 H1 (match ys.findIdx? (· == z) with | some j => Res.ok (D.int (j : Nat)) Δ1 | none => Res.stuck) _ := w1
    cases q : ys.findIdx? (· == z) with
    | none => rw [q] at w1; exact w1.elim
    | some j =>
      rw [q] at w1
      obtain ⟨hj, h1, h2⟩ := List.findIdx?_eq_some_iff_getElem.mp q
      refine ⟨t, ys, z, j, rfl, rfl, ht H1, by rw [List.getElem?_eq_getElem hj]; simpa using h1, fun m hm he => ?_, w1 F1 H1 env1 .refl _ (.int _)⟩
      have hml : m < ys.length := by omega
      have := h2 m hm
      rw [List.getElem?_eq_getElem hml] at he
      cases he
      simp at this
  | _ => exact w1.elim

/-! ### order of data -/
def notNone : PyData → Bool
  | .none => false
  | _ => true
def ordB (f : PyData → PyData → Bool) (x y : D) : Option D := match toPy x, toPy y with
  | some p, some q => if PySem.W.alike p q = true ∧ SeqAt.shaped p = true ∧ notNone p = true then some (.bl (f p q)) else none
  | _, _ => none
def rOrd (K : PySem.W.Frag) (f : PyData → PyData → Bool) : R2 := fun x y H Q => ∃ p q, Dp K H x p ∧ Dp K H y q ∧ PySem.W.alike p q = true ∧ SeqAt.shaped p = true ∧ p ≠ .none ∧ Q (.bl (f p q)) H
theorem ordB_ok {f : PyData → PyData → Bool} {u v : V} {x y d : D} {Q : VK} (ex : Ex F H) (hf : ordB f x y = some d) (rx : RepR L F H u x) (ry : RepR L F H v y) (q : ∀ v F' H', Gro F H F' H' → Rep L.K F' v d → Q v H') : rOrd L.K f u v H Q := by
  unfold ordB at hf
  split at hf
  · rename_i p r e1 e2
    split at hf
    · rename_i hc
      cases hf
      exact ⟨p, r, toPy_dpR ex rx e1, toPy_dpR ex ry e2, hc.1, hc.2.1, fun z => by subst z; exact absurd hc.2.2 (by decide), q _ F H (.refl ex) (.bl _)⟩
    · cases hf
  · cases hf
open PySem.W in
theorem op_ltO (hu : X.A.units + 64 < cLine) : OpR X (compareOp .Lt) (rOrd X.K dataLt) := by
  intro pins s σ H x y v u Q I rx ry h
  obtain ⟨p, r, hp, hr, ha, hs, hn, q⟩ := h
  obtain ⟨as, r1⟩ := Dp.reads I p x v hp rx
  obtain ⟨bs, r2⟩ := Dp.reads I r y u hr ry
  exact rcLt_alike p r X.A s v u as bs r1 r2 ha hn (SeqAt.room_of_shaped hs hu) _ _ _ _ ⟨.bl _, H, I, rfl, q⟩
open PySem.W in
theorem op_leO (hu : X.A.units + 64 < cLine) : OpR X (compareOp .LtE) (rOrd X.K fun p r => !dataLt r p) := by
  intro pins s σ H x y v u Q I rx ry h
  obtain ⟨p, r, hp, hr, ha, hs, hn, q⟩ := h
  obtain ⟨as, r1⟩ := Dp.reads I p x v hp rx
  obtain ⟨bs, r2⟩ := Dp.reads I r y u hr ry
  exact rcLe_alike p r X.A s v u as bs r1 r2 ha hn (SeqAt.room_of_shaped hs hu) _ _ _ _ ⟨.bl _, H, I, rfl, q⟩
open PySem.W in
theorem op_gtO (hu : X.A.units + 64 < cLine) : OpR X (compareOp .Gt) (rOrd X.K fun p r => dataLt r p) := by
  intro pins s σ H x y v u Q I rx ry h
  obtain ⟨p, r, hp, hr, ha, hs, hn, q⟩ := h
  obtain ⟨as, r1⟩ := Dp.reads I p x v hp rx
  obtain ⟨bs, r2⟩ := Dp.reads I r y u hr ry
  exact rcGt_alike p r X.A s v u as bs r1 r2 ha hn (SeqAt.room_of_shaped hs hu) _ _ _ _ ⟨.bl _, H, I, rfl, q⟩
open PySem.W in
theorem op_geO (hu : X.A.units + 64 < cLine) : OpR X (compareOp .GtE) (rOrd X.K fun p r => !dataLt p r) := by
  intro pins s σ H x y v u Q I rx ry h
  obtain ⟨p, r, hp, hr, ha, hs, hn, q⟩ := h
  obtain ⟨as, r1⟩ := Dp.reads I p x v hp rx
  obtain ⟨bs, r2⟩ := Dp.reads I r y u hr ry
  exact rcGe_alike p r X.A s v u as bs r1 r2 ha hn (SeqAt.room_of_shaped hs hu) _ _ _ _ ⟨.bl _, H, I, rfl, q⟩
/-- ints at once, the rest as data -/
def ordG (g : Int → Int → Bool) (f : PyData → PyData → Bool) : D → D → Option D
  | .int i, .int j => some (.bl (g i j))
  | x, y => ordB f x y
def rOrdG (K : PySem.W.Frag) (g : Int → Int → Bool) (f : PyData → PyData → Bool) : R2 := fun x y H Q => rI0 (fun i j => .bl (g i j)) x y H Q ∨ rOrd K f x y H Q
theorem ops_ordG {g : Int → Int → Bool} {f : PyData → PyData → Bool} : OpS L (rOrdG L.K g f) (ordG g f) := by
  intro F H u v x y d Q ex hf rx ry q
  unfold ordG at hf
  split at hf
  · cases hf; exact .inl ⟨_, _, rx.int, ry.int, q _ F H (.refl ex) (.bl _)⟩
  · exact .inr (ordB_ok ex hf rx ry q)
abbrev ltG : D → D → Option D := ordG (fun i j => decide (i < j)) PySem.W.dataLt
abbrev leG : D → D → Option D := ordG (fun i j => decide (i ≤ j)) fun p r => !PySem.W.dataLt r p
abbrev gtG : D → D → Option D := ordG (fun i j => decide (j < i)) fun p r => PySem.W.dataLt r p
abbrev geG : D → D → Option D := ordG (fun i j => decide (j ≤ i)) fun p r => !PySem.W.dataLt p r
theorem op_ltG (hu : X.A.units + 64 < cLine) : OpR X (compareOp .Lt) (rOrdG X.K (fun i j => decide (i < j)) PySem.W.dataLt) := opr_or op_lt (op_ltO hu)
theorem op_leG (hu : X.A.units + 64 < cLine) : OpR X (compareOp .LtE) (rOrdG X.K (fun i j => decide (i ≤ j)) fun p r => !PySem.W.dataLt r p) := opr_or op_le (op_leO hu)
theorem op_gtG (hu : X.A.units + 64 < cLine) : OpR X (compareOp .Gt) (rOrdG X.K (fun i j => decide (j < i)) fun p r => PySem.W.dataLt r p) := opr_or op_gt (op_gtO hu)
theorem op_geG (hu : X.A.units + 64 < cLine) : OpR X (compareOp .GtE) (rOrdG X.K (fun i j => decide (j ≤ i)) fun p r => !PySem.W.dataLt p r) := opr_or op_ge (op_geO hu)
end
end KL
/-! KL, part l: defs as they are called; the frame of a whole proof. -/
namespace KL
open PySem L2

/-! ### the readings' words -/
abbrev cst {α : Type} (a : α) : DEnv → Res α := fun Δ => .ok a Δ
def lstE (m : DEnv → Res (List D)) : DEnv → Res D := fun Δ => (m Δ).map .lst
def sq (a b : DEnv → SRes) : DEnv → SRes := fun Δ => (a Δ).seq b
def exprS (m : DEnv → Res D) : DEnv → SRes := fun Δ => (m Δ).s fun _ Δ1 => .nx Δ1
def retS (m : DEnv → Res D) : DEnv → SRes := fun Δ => (m Δ).s .rt
def retFS (m : DEnv → Res (List D)) : DEnv → SRes := fun Δ => (m Δ).s .rf
def setS (i : Nat) (m : DEnv → Res D) : DEnv → SRes := fun Δ => (m Δ).s fun d Δ1 => setM i d Δ1
def setOS (i : Nat) (m : DEnv → Res (List D)) : DEnv → SRes := fun Δ => (m Δ).s fun d Δ1 => setO i d Δ1
def ifS (t : DEnv → Res Bool) (a b : DEnv → SRes) : DEnv → SRes := fun Δ => (t Δ).s fun k Δ1 => if k = true then a Δ1 else b Δ1
def forS (i : DEnv → Res (List D)) (g : D → DEnv → Option DEnv) (b : DEnv → SRes) : DEnv → SRes := fun Δ => (i Δ).s (forM g b)
/-- the def f, with the text st -/
def Dn (K : PySem.W.Frag) (x : Str) (st : Stmt) (f : Addr) (ps : List Str) : Prop := ∃ fd, Fun K x x st f fd ∧ Binds K fd ps []
/-- what a caller needs -/
structure Cal (P : Program) (w : World) (K : PySem.W.Frag) (mg : Str → Option Value) (base : Heap) (L : Lx) (f : Addr) (k : Nat) (ps : List Str) (mf : DEnv → FRes) : Prop where
  ex : ∃ fd, Binds K fd ps [] ∧ FnOk P w K mg base (L2.CX P w) k f fd ps (spD L ps.length mf)
  kp : PySem.W.keepIn K (.ref f) = true
section
variable {P : Program} {w : World} {K : PySem.W.Frag} {mg : Str → Option Value} {base : Heap} {L : Lx}
theorem cal_body {x : Str} {st : Stmt} {f : Addr} {N ps : List Str} {k : Nat} {ms : DEnv → SRes} (D : Dn K x st f ps) (S : FnScope N ps (defScope st))
    (hb : ∀ (cdv : Value) (A : Around) (outer : List PySem.Env) (s : Shared) (H : Hp) (E : XK), Room k (A.deeper (PyProof.Rows.envOfC x (defScope st) s.heap.objs.size f cdv)) →
      Takes (cxOf (L2.CX P w) P w K mg base N x (defScope st) f cdv A outer s H E) (fun cls d _ H => E cls d H) →
      DSs (cxOf (L2.CX P w) P w K mg base N x (defScope st) f cdv A outer s H E) L (fun cls d _ H => E cls d H) (defBody st) ms) :
    Cal P w K mg base L f (k + 1) ps (bodyF ps.length N.length ms) := by
  obtain ⟨fd, F, b⟩ := D
  exact ⟨⟨fd, b, fn_body F S hb⟩, F.kp⟩
theorem Cal.up {f : Addr} {j k : Nat} {ps : List Str} {mf : DEnv → FRes} (c : Cal P w K mg base L f j ps mf) (h : j ≤ k) : Cal P w K mg base L f k ps mf := let ⟨fd, b, F⟩ := c.ex; ⟨⟨fd, b, F.mono h⟩, c.kp⟩
theorem hu64 {k : Nat} {A : Around} (r : Room k A) : A.units + 64 < cLine := by
  have := r.un
  omega
end
section
variable {X : Cx} {L : Lx} {W : WX} {k j : Nat} {f : Addr} {ps : List Str} {mf : DEnv → FRes} {x : Str} {p pos : Pos} {e : Expr} {es : List Expr} {m : DEnv → Res (List Arg)}
theorem d_callC (C : Cal X.prog X.w X.K X.mg X.base L f j ps mf) (hr : Room k X.A) (hj : j ≤ k) (hg : Gl X x) (hm : X.mg x = some (.ref f)) (tk : Takes X W) (ha : DC X L W (e :: es) m)
    (hl : (e :: es).length = ps.length) (hdb : (x == ("__debug__" : Str)) = false) (he : starEach (e :: es) X.env = (false, eval e X.env) :: starEach es X.env) (hpl : (backTo pos (starEach es X.env)).any (·.1) = false) :
    DE X L W (.Call (.Name x p) (e :: es) [] pos) (callM mf m) := by
  obtain ⟨fd, b, F⟩ := C.ex
  exact d_call F (hr.mono hj) hg hm C.kp b tk ha hl hdb he hpl
theorem d_callCF (C : Cal X.prog X.w X.K X.mg X.base L f j ps mf) (hr : Room k X.A) (hj : j ≤ k) (hg : Gl X x) (hm : X.mg x = some (.ref f)) (tk : Takes X W) (ha : DC X L W (e :: es) m)
    (hl : (e :: es).length = ps.length) (hdb : (x == ("__debug__" : Str)) = false) (he : starEach (e :: es) X.env = (false, eval e X.env) :: starEach es X.env) (hpl : (backTo pos (starEach es X.env)).any (·.1) = false) :
    DF X L W (.Call (.Name x p) (e :: es) [] pos) (callF mf m) := by
  obtain ⟨fd, b, F⟩ := C.ex
  exact d_callF F (hr.mono hj) hg hm C.kp b tk ha hl hdb he hpl
/-- a list and a list -/
theorem f_bin {op : Operator} {r : R2} {g : D → D → Option (List D)} {a b : Expr} {ma mb : DEnv → Res D} (ho : OpR X (binaryOp op) r) (hf : OpF L r g) (ha : DE X L W a ma) (hb : DR X L W b mb) : DF X L W (.BinOp a op b pos) (opM g ma mb) :=
  let ⟨_, p1, s1⟩ := ha.ex
  let ⟨_, p2, s2⟩ := hb.ex
  ⟨_, pe_op ho p1 p2, sndF_op hf s1 s2⟩
theorem f_binV {op : Operator} {r : R2} {g : D → D → Option (List D)} {b : Expr} {mb : DEnv → Res D} {i : Nat} (ho : OpR X (binaryOp op) r) (hf : OpF L r g) (hN : X.N[i]? = some x) (hv : Vis X.env.scope x) (hd : (x == ("__debug__" : Str)) = false) (hcd : (x == ("__classdict__" : Str)) = false) (hb : DR X L W b mb) : DF X L W (.BinOp (.Name x p) op b pos) (opV g i mb) :=
  let ⟨_, p2, s2⟩ := hb.ex
  ⟨_, pe_op ho (pe_var hN hv hd hcd) p2, sndF_opV hf s2⟩
end
/-! ### the end -/
def initOf : Stmt → Stmt
  | .ClassDef _ _ _ b _ _ _ _ _ _ _ => b.getD 0 (.Pass ⟨0, 0, 0, 0⟩)
  | s => s
open PySem.W in
theorem exm_of {K : Frag} {S B : Addr} (h1 : subIn K (.ref S) (.type "BaseException") = some true) (h1' : subIn K (.ref B) (.type "BaseException") = some true) (h2 : isClsIn K B = true) (h3 : typeIn K (.ref B) = some (.type "type")) {b : Bool} (h4 : subIn K (.ref S) (.ref B) = some b) : exmOne K (.ref S) (.ref B) = some b := by
  have e1 : (subIn K (.ref B) (.type "BaseException") == some true) = true := by rw [h1'] <;> rfl
  have e2 : ((clsIn K B).isSome && typeIn K (.ref B) == some (.type "type")) = true := by
    rw [show (clsIn K B).isSome = true from h2, h3] <;> rfl
  show (if (subIn K (.ref B) (.type "BaseException") == some true) = true then (if ((clsIn K B).isSome && typeIn K (.ref B) == some (.type "type")) = true then subIn K (.ref S) (.ref B) else none) else none) = some b
  rw [if_pos e1, if_pos e2]; exact h4
/-- what is promised of the law -/
def spTop (K : PySem.W.Frag) : Sp := fun vs H Q _ => ∃ (a : Addr) (ns : List Int), vs = [.ref a] ∧ SqL K H a (ns.map V.int) ∧ ns.length ≤ 63 ∧ ∀ H', Q (.bl true) H'
theorem spTop_of {L : Lx} {mf : DEnv → FRes} (hm : ∀ ns : List Int, ns.length ≤ 63 → ∃ cs, mf [.va (.lsx (ns.map D.int))] = .ok (.bl true) cs) (vs : List V) (H : Hp) (Q : VK) (E : XK) (h : spTop L.K vs H Q E) : spD L 1 mf vs H Q E := by
  obtain ⟨a, ns, rfl, hs, hl, hq⟩ := h
  refine ⟨rfl, [.va (.lsx (ns.map D.int))], H, ⟨Ex.refl H, rfl, fun i c hc => ?_, fun i j c c' xs ys b hij hi hj h1 h2 => ?_⟩, fun i xs h => ?_, ?_⟩
  · cases i with
    | zero =>
      cases hc
      refine ⟨.ref a, rfl, .lsx hs (by simp) fun i v d h1 h2 => ?_⟩
      rw [List.getElem?_map] at h1 h2
      cases q : ns[i]? with
      | none => rw [q] at h1; cases h1
      | some z => rw [q] at h1 h2; cases h1; cases h2; exact .int z
    | succ i => simp at hc
  · cases i with
    | zero => cases hi; cases h1
    | succ i => simp at hi
  · cases i with
    | zero => cases h
    | succ i => simp at h
  · obtain ⟨cs, e⟩ := hm ns hl
    rw [e]
    intro v F' H' _ _ r
    cases r
    exact hq H'
/-- a tuple of texts that the module holds -/
structure TupS (K : PySem.W.Frag) (mg : Str → Option Value) (x : Str) (t : Addr) (ys : List Str) : Prop where
  g : mg x = some (.ref t)
  o : ∃ o, K.lookup t = some o ∧ o.cls = .type "tuple" ∧ o.dict = none
  q : ∀ H, SqT K H t (ys.map V.str)
theorem TupS.rep {K : PySem.W.Frag} {mg : Str → Option Value} {x : Str} {t : Addr} {ys : List Str} (T : TupS K mg x t ys) (F : Hp) : Rep K F (.ref t) (.tup (ys.map D.str)) :=
  .tup (T.q F) (by simp) fun i v d h1 h2 => by
    rw [List.getElem?_map] at h1 h2
    cases q : ys[i]? with
    | none => rw [q] at h1; cases h1
    | some z => rw [q] at h1 h2; cases h1; cases h2; exact .str z
theorem vals_strs : ∀ {ys : List Str} {us : List Value}, us.length = ys.length → (∀ (i : Nat) u z, us[i]? = some u → ys[i]? = some z → ∃ t, u = .str z t) → Vals (ys.map V.str) us
  | [], [], _, _ => .nil
  | y :: ys, u :: us, hl, h => .cons (h 0 u y rfl rfl) (vals_strs (by simpa using hl) fun i u z h1 h2 => h (i + 1) u z h1 h2)
  | [], _ :: _, hl, _ => by simp at hl
  | _ :: _, [], hl, _ => by simp at hl
/-- are these the texts? -/
def strsB : List Value → List Str → Bool
  | [], [] => true
  | .str x _ :: us, y :: ys => x == y && strsB us ys
  | _, _ => false
theorem strsB_ok : ∀ {us : List Value} {ys : List Str}, strsB us ys = true → Vals (ys.map V.str) us
  | [], [], _ => .nil
  | .str x t :: us, y :: ys, h => by
    obtain ⟨h1, h2⟩ := Bool.and_eq_true_iff.mp h
    have e : x = y := by simpa using h1
    subst e
    exact .cons ⟨t, rfl⟩ (strsB_ok h2)
  | [], _ :: _, h => by cases h
  | .str _ _ :: _, [], h => by cases h
  | .none :: _, [], h => by cases h
  | .none :: _, _ :: _, h => by cases h
  | .bool _ :: _, [], h => by cases h
  | .bool _ :: _, _ :: _, h => by cases h
  | .int _ _ :: _, [], h => by cases h
  | .int _ _ :: _, _ :: _, h => by cases h
  | .ref _ :: _, [], h => by cases h
  | .ref _ :: _, _ :: _, h => by cases h
  | .type _ :: _, [], h => by cases h
  | .type _ :: _, _ :: _, h => by cases h
  | .builtin _ :: _, [], h => by cases h
  | .builtin _ :: _, _ :: _, h => by cases h
  | .bytes _ _ :: _, [], h => by cases h
  | .bytes _ _ :: _, _ :: _, h => by cases h
  | .float _ _ :: _, [], h => by cases h
  | .float _ _ :: _, _ :: _, h => by cases h
theorem tupS_mk {K : PySem.W.Frag} {mg : Str → Option Value} {x : Str} {t : Addr} {ys : List Str} {its : Array Value} {n : Nat} {sl : Array (Option Value)} (g : mg x = some (.ref t)) (l : K.lookup t = some ⟨.type "tuple", none, .seq its n, sl⟩) (h : strsB its.toList ys = true) (hs : decide (its.size ≤ 16777216) = true) : TupS K mg x t ys :=
  ⟨g, ⟨_, l, rfl, rfl⟩, fun H => .inr ⟨_, its, n, l, rfl, rfl, by rw [sizeLine_eq]; exact of_decide_eq_true hs, strsB_ok h⟩⟩
end KL
/-! KL, part m: the readings computed; the deck that every law deals from. -/
namespace KL
open PySem L2
/-- an equation that simp must not take as a definition (the kernel would unfold too much) -/
theorem nr {α : Sort _} {a b : α} (h : a = b) : a = b := h
section
variable {α β : Type} {a : α} {Δ Δ1 : DEnv} {x : Exc}
@[simp] theorem seq_nx {f : DEnv → SRes} : (SRes.nx Δ).seq f = f Δ := nr rfl
@[simp] theorem seq_rt {f : DEnv → SRes} {d : D} : (SRes.rt d Δ).seq f = .rt d Δ := nr rfl
@[simp] theorem seq_rf {f : DEnv → SRes} {d : List D} : (SRes.rf d Δ).seq f = .rf d Δ := nr rfl
@[simp] theorem seq_bk {f : DEnv → SRes} : (SRes.bk Δ).seq f = .bk Δ := nr rfl
@[simp] theorem seq_ct {f : DEnv → SRes} : (SRes.ct Δ).seq f = .ct Δ := nr rfl
@[simp] theorem seq_ex {f : DEnv → SRes} : (SRes.ex x Δ).seq f = .ex x Δ := nr rfl
@[simp] theorem loop_nx {f : DEnv → SRes} : (SRes.nx Δ).loop f = f Δ := nr rfl
@[simp] theorem loop_rt {f : DEnv → SRes} {d : D} : (SRes.rt d Δ).loop f = .rt d Δ := nr rfl
@[simp] theorem loop_rf {f : DEnv → SRes} {d : List D} : (SRes.rf d Δ).loop f = .rf d Δ := nr rfl
@[simp] theorem loop_bk {f : DEnv → SRes} : (SRes.bk Δ).loop f = .nx Δ := nr rfl
@[simp] theorem loop_ct {f : DEnv → SRes} : (SRes.ct Δ).loop f = f Δ := nr rfl
@[simp] theorem loop_ex {f : DEnv → SRes} : (SRes.ex x Δ).loop f = .ex x Δ := nr rfl
@[simp] theorem s_ok_ {f : α → DEnv → SRes} : (Res.ok a Δ).s f = f a Δ := nr rfl
@[simp] theorem s_ex_ {f : α → DEnv → SRes} : (Res.ex x Δ : Res α).s f = .ex x Δ := nr rfl
@[simp] theorem bind_ok_ {f : α → DEnv → Res β} : (Res.ok a Δ).bind f = f a Δ := nr rfl
@[simp] theorem bind_ex_ {f : α → DEnv → Res β} : (Res.ex x Δ : Res α).bind f = .ex x Δ := nr rfl
@[simp] theorem map_ok_ {f : α → β} : (Res.ok a Δ).map f = .ok (f a) Δ := nr rfl
@[simp] theorem map_ex_ {f : α → β} : (Res.ex x Δ : Res α).map f = .ex x Δ := nr rfl
@[simp] theorem opt_some_ : (Res.opt (some a) Δ) = .ok a Δ := nr rfl
@[simp] theorem nox_ok_ : (Res.ok a Δ).nox = .ok a Δ := nr rfl
@[simp] theorem gd_true_ {r : Res α} : gd true r = r := nr rfl
@[simp] theorem sq_ {a b : DEnv → SRes} : sq a b Δ = (a Δ).seq b := nr rfl
@[simp] theorem exprS_ {m : DEnv → Res D} : exprS m Δ = (m Δ).s fun _ Δ1 => .nx Δ1 := nr rfl
@[simp] theorem retS_ {m : DEnv → Res D} : retS m Δ = (m Δ).s .rt := nr rfl
@[simp] theorem retFS_ {m : DEnv → Res (List D)} : retFS m Δ = (m Δ).s .rf := nr rfl
@[simp] theorem setS_ {i : Nat} {m : DEnv → Res D} : setS i m Δ = (m Δ).s fun d Δ1 => setM i d Δ1 := nr rfl
@[simp] theorem setOS_ {i : Nat} {m : DEnv → Res (List D)} : setOS i m Δ = (m Δ).s fun d Δ1 => setO i d Δ1 := nr rfl
@[simp] theorem ifS_ {t : DEnv → Res Bool} {a b : DEnv → SRes} : ifS t a b Δ = (t Δ).s fun k Δ1 => if k = true then a Δ1 else b Δ1 := nr rfl
@[simp] theorem forS_ {i : DEnv → Res (List D)} {g : D → DEnv → Option DEnv} {b : DEnv → SRes} : forS i g b Δ = (i Δ).s (forM g b) := nr rfl
@[simp] theorem opM_ {f : D → D → Option α} {ma mb : DEnv → Res D} : opM f ma mb Δ = (ma Δ).bind fun x Δ1 => (mb Δ1).bind fun y Δ2 => .opt (f x y) Δ2 := nr rfl
@[simp] theorem varR_ {i : Nat} : varR i Δ = .opt (rdR Δ i) Δ := nr rfl
@[simp] theorem asB_ {m : DEnv → Res D} : asB m Δ = (m Δ).bind fun d Δ1 => match d with | .bl b => .ok b Δ1 | _ => .stuck := nr rfl
@[simp] theorem truM_ {m : DEnv → Res D} : truM m Δ = (m Δ).bind fun d Δ1 => .opt (truD d) Δ1 := nr rfl
@[simp] theorem notM_ {m : DEnv → Res Bool} : notM m Δ = (m Δ).map (!·) := nr rfl
@[simp] theorem andM_ {m n : DEnv → Res Bool} : andM m n Δ = (m Δ).bind fun c Δ1 => if c = true then n Δ1 else .ok false Δ1 := nr rfl
@[simp] theorem orM_ {m n : DEnv → Res Bool} : orM m n Δ = (m Δ).bind fun c Δ1 => if c = true then .ok true Δ1 else n Δ1 := nr rfl
@[simp] theorem call1_ {g : D → Option D} {m : DEnv → Res D} : call1 g m Δ = (m Δ).bind fun d Δ1 => .opt (g d) Δ1 := nr rfl
@[simp] theorem lstE_ {m : DEnv → Res (List D)} : lstE m Δ = (m Δ).map .lst := nr rfl
@[simp] theorem consM_ {m : DEnv → Res D} {n : DEnv → Res (List D)} : consM m n Δ = (m Δ).bind fun d Δ1 => (n Δ1).map (d :: ·) := nr rfl
@[simp] theorem aV_ {m : DEnv → Res D} {r : DEnv → Res (List Arg)} : aV m r Δ = (m Δ).bind fun d Δ1 => (r Δ1).map (Sum.inl d :: ·) := nr rfl
@[simp] theorem someM_ {m : DEnv → Res D} : someM m Δ = (m Δ).bind fun d Δ1 => match d with | .int i => .ok (some i) Δ1 | _ => .stuck := nr rfl
@[simp] theorem slM_ {f : D → Option Int → Option Int → Option α} {me : DEnv → Res D} {ml mh : DEnv → Res (Option Int)} : slM f me ml mh Δ = (me Δ).bind fun d Δ1 => (ml Δ1).bind fun lo Δ2 => (mh Δ2).bind fun hi Δ3 => .opt (f d lo hi) Δ3 := nr rfl
@[simp] theorem raiseM_ {c f : Str} {m : DEnv → Res D} : raiseM c f m Δ = (m Δ).s fun d Δ1 => .ex (.mk c [(f, d)]) Δ1 := nr rfl
@[simp] theorem andV_ {m n : DEnv → Res D} : andV m n Δ = (m Δ).bind fun d Δ1 => match d with | .bl true => n Δ1 | .bl false => .ok (.bl false) Δ1 | _ => .stuck := nr rfl
@[simp] theorem orV_ {m n : DEnv → Res D} : orV m n Δ = (m Δ).bind fun d Δ1 => match d with | .bl true => .ok (.bl true) Δ1 | .bl false => n Δ1 | _ => .stuck := nr rfl
@[simp] theorem ifM_ {c : DEnv → Res Bool} {m n : DEnv → Res α} : ifM c m n Δ = (c Δ).bind fun k Δ1 => if k = true then m Δ1 else n Δ1 := nr rfl
@[simp] theorem rd_va {d : D} : rdC (.va d) = some d := nr rfl
@[simp] theorem rd_ow {d : List D} : rdC (.ow d) = some (.lst d) := nr rfl
@[simp] theorem rd_pa {d : List D} : rdC (.pa d) = some (.lst d) := nr rfl
@[simp] theorem addD_int {i j : Int} : addD (.int i) (.int j) = some (.int (i + j)) := nr rfl
@[simp] theorem subD_int {i j : Int} : subD (.int i) (.int j) = some (.int (i - j)) := nr rfl
@[simp] theorem ltG_int {i j : Int} : ltG (.int i) (.int j) = some (.bl (decide (i < j))) := nr rfl
@[simp] theorem leG_int {i j : Int} : leG (.int i) (.int j) = some (.bl (decide (i ≤ j))) := nr rfl
@[simp] theorem gtG_int {i j : Int} : gtG (.int i) (.int j) = some (.bl (decide (j < i))) := nr rfl
@[simp] theorem geG_int {i j : Int} : geG (.int i) (.int j) = some (.bl (decide (j ≤ i))) := nr rfl
theorem modD_int {i j : Int} (h : 0 < j) : modD (.int i) (.int j) = some (.int (i % j)) := if_pos (decide_eq_true h)
theorem divD_int {i j : Int} (h : 0 < j ∧ j < 1073741824) : divD (.int i) (.int j) = some (.int (i / j)) := if_pos (decide_eq_true h)
theorem mulD_r {i j : Int} (h : -18446744073709551616 < j ∧ j < 18446744073709551616) : mulD (.int i) (.int j) = some (.int (i * j)) := if_pos (decide_eq_true (.inr h))
theorem mulD_l {i j : Int} (h : -18446744073709551616 < i ∧ i < 18446744073709551616) : mulD (.int i) (.int j) = some (.int (i * j)) := if_pos (decide_eq_true (.inl h))
@[simp] theorem intD1_int {i : Int} : intD1 (.int i) = some (.int i) := nr rfl
@[simp] theorem intD1_bl {b : Bool} : intD1 (.bl b) = some (.int (if b then 1 else 0)) := nr rfl
@[simp] theorem absD_int {i : Int} : absD (.int i) = some (.int (if i < 0 then -i else i)) := nr rfl
@[simp] theorem lenD_lst {xs : List D} : lenD (.lst xs) = some (.int xs.length) := nr rfl
@[simp] theorem lenD_lsx {xs : List D} : lenD (.lsx xs) = some (.int xs.length) := nr rfl
@[simp] theorem lenD_tup {xs : List D} : lenD (.tup xs) = some (.int xs.length) := nr rfl
end
/-- the end of a body -/
def SRes.fin (n : Nat) : SRes → FRes
  | .nx Δ => .ok .non (kpD n Δ)
  | .rt d Δ => .ok d (kpD n Δ)
  | .rf ds Δ => .fr ds (kpD n Δ)
  | .ex x Δ => .ex x (kpD n Δ)
  | _ => .stuck
theorem bodyF_ {n N : Nat} {ms : DEnv → SRes} {cs : DEnv} : bodyF n N ms cs = (ms (cs ++ List.replicate (N - n) .no)).fin n := rfl
@[simp] theorem fin_nx {n : Nat} {Δ : DEnv} : (SRes.nx Δ).fin n = .ok .non (kpD n Δ) := nr rfl
@[simp] theorem fin_rt {n : Nat} {d : D} {Δ : DEnv} : (SRes.rt d Δ).fin n = .ok d (kpD n Δ) := nr rfl
@[simp] theorem fin_rf {n : Nat} {ds : List D} {Δ : DEnv} : (SRes.rf ds Δ).fin n = .fr ds (kpD n Δ) := nr rfl
@[simp] theorem fin_ex {n : Nat} {x : Exc} {Δ : DEnv} : (SRes.ex x Δ).fin n = .ex x (kpD n Δ) := nr rfl
def keepC : Cell → Cell
  | .pa xs => .pa xs
  | _ => .no
@[simp] theorem keepC_pa {xs : List D} : keepC (.pa xs) = .pa xs := nr rfl
@[simp] theorem keepC_va {d : D} : keepC (.va d) = .no := nr rfl
@[simp] theorem keepC_ow {xs : List D} : keepC (.ow xs) = .no := nr rfl
@[simp] theorem keepC_no : keepC .no = .no := nr rfl
theorem kpD_map {n : Nat} {Δ : DEnv} (h : n ≤ Δ.length) : kpD n Δ = (Δ.take n).map keepC := by
  apply List.ext_getElem?
  intro i
  unfold kpD
  rw [List.getElem?_map, List.getElem?_map, List.getElem?_take]
  by_cases hi : i < n
  · rw [List.getElem?_range hi, if_pos hi, List.getElem?_eq_getElem (by omega)]
    show some (match (Δ[i]? : Option Cell) with | some (Cell.pa xs) => Cell.pa xs | _ => Cell.no) = some (keepC Δ[i])
    rw [List.getElem?_eq_getElem (by omega)]
    cases Δ[i] <;> rfl
  · rw [List.getElem?_eq_none (by simpa using hi), if_neg hi]; rfl
@[simp] theorem eqD_int {i j : Int} : eqD (.int i) (.int j) = some (.bl (decide (i = j))) := nr rfl
@[simp] theorem neD_int {i j : Int} : neD (.int i) (.int j) = some (.bl (!decide (i = j))) := nr rfl
@[simp] theorem eqD_str {i j : Str} : eqD (.str i) (.str j) = some (.bl (decide (i = j))) := nr rfl
@[simp] theorem neD_str {i j : Str} : neD (.str i) (.str j) = some (.bl (!decide (i = j))) := nr rfl
/-- may the slot be set? -/
def canC : Cell → Bool
  | .pa _ => false
  | _ => true
@[simp] theorem canC_no : canC .no = true := nr rfl
@[simp] theorem canC_va {d : D} : canC (.va d) = true := nr rfl
@[simp] theorem canC_ow {xs : List D} : canC (.ow xs) = true := nr rfl
theorem canSet_ {Δ : DEnv} {i : Nat} : canSet Δ i = match (Δ[i]? : Option Cell) with | some c => canC c | none => false := by
  unfold canSet
  cases (Δ[i]? : Option Cell) with
  | none => rfl
  | some c => cases c <;> rfl
/-- a walk that goes through -/
theorem forM_all {tgt : D → DEnv → Option DEnv} {body : DEnv → SRes} {P : Nat → DEnv → Prop} : ∀ {xs : List D} {Δ : DEnv} (k : Nat), P k Δ → (∀ i d Δ, xs[i]? = some d → P (k + i) Δ → ∃ Δ1 Δ2, tgt d Δ = some Δ1 ∧ body Δ1 = .nx Δ2 ∧ P (k + i + 1) Δ2) → ∃ Δ', forM tgt body xs Δ = .nx Δ' ∧ P (k + xs.length) Δ'
  | [], Δ, k, h0, _ => ⟨Δ, rfl, h0⟩
  | x :: xs, Δ, k, h0, hs => by
    obtain ⟨Δ1, Δ2, e1, e2, e3⟩ := hs 0 x Δ rfl h0
    obtain ⟨Δ', f1, f2⟩ := forM_all (xs := xs) (Δ := Δ2) (k + 1) e3 fun i d Δ hi hp => by
      have := hs (i + 1) d Δ (by simpa using hi) (by rw [show k + (i + 1) = k + 1 + i by omega]; exact hp)
      rw [show k + (i + 1) + 1 = k + 1 + i + 1 by omega] at this
      exact this
    refine ⟨Δ', ?_, by rw [List.length_cons, show k + (xs.length + 1) = k + 1 + xs.length by omega]; exact f2⟩
    show (match tgt x Δ with | none => SRes.stuck | some Δ1 => (body Δ1).loop (forM tgt body xs)) = _
    rw [e1]
    show (body Δ1).loop (forM tgt body xs) = _
    rw [e2, loop_nx, f1]
/-- over the numbers from lo on -/
theorem forM_rng {tgt : D → DEnv → Option DEnv} {body : DEnv → SRes} {P : Nat → DEnv → Prop} {lo : Int} {n : Nat} {Δ : DEnv} (h0 : P 0 Δ) (hs : ∀ (i : Nat) Δ, i < n → P i Δ → ∃ Δ1 Δ2, tgt (.int (lo + (i : Int))) Δ = some Δ1 ∧ body Δ1 = .nx Δ2 ∧ P (i + 1) Δ2) :
    ∃ Δ', forM tgt body (rangeL lo n) Δ = .nx Δ' ∧ P n Δ' := by
  have hl : (rangeL lo n).length = n := by simp [rangeL]
  obtain ⟨Δ', h1, h2⟩ := forM_all (tgt := tgt) (body := body) (P := P) (xs := rangeL lo n) (Δ := Δ) 0 h0 fun i d Δ hi hp => by
    unfold rangeL at hi
    rw [List.getElem?_map] at hi
    cases q : (List.range n)[i]? with
    | none => rw [q] at hi; cases hi
    | some j =>
      rw [q] at hi
      cases hi
      have hi : i < n := by have := (List.getElem?_eq_some_iff.mp q).1; simpa using this
      have hj : j = i := by rw [List.getElem?_range hi] at q; cases q; rfl
      subst hj
      rw [Nat.zero_add] at hp ⊢
      exact hs j Δ hi hp
  rw [hl, Nat.zero_add] at h2
  exact ⟨Δ', h1, h2⟩
def rng1 (d : D) (Δ1 : DEnv) : Res (List D) := match d with
  | .int j => gd (decide (-4611686018427387904 ≤ j ∧ j < 4611686018427387904)) (.ok (rangeL 0 j.toNat) Δ1)
  | _ => .stuck
theorem range1_ {m : DEnv → Res D} {Δ : DEnv} : range1M m Δ = (m Δ).bind rng1 := by
  have h : range1M m Δ = (m Δ).bind rng1 := rfl
  exact h.trans (Eq.refl _)
def lim62 : Int := 4611686018427387904
theorem rng1_int {j : Int} {Δ : DEnv} (h : 0 ≤ j) (h2 : j < lim62) : rng1 (.int j) Δ = .ok (rangeL 0 j.toNat) Δ := by
  unfold lim62 at h2
  show gd (decide (-4611686018427387904 ≤ j ∧ j < 4611686018427387904)) _ = _
  rw [decide_eq_true ⟨by omega, h2⟩]; rfl
theorem rng1_nat {e : Nat} {Δ : DEnv} (he : (e : Int) < lim62) : rng1 (.int (e : Int)) Δ = .ok (rangeL 0 e) Δ := rng1_int (Int.natCast_nonneg e) he
theorem powD_int {i j : Int} (h : 0 ≤ j ∧ j ≤ 1000000 ∧ i.natAbs < 18446744073709551616) : powD (.int i) (.int j) = some (.int (i ^ j.toNat)) := if_pos (decide_eq_true h)
theorem ixD_lsx {ns : List Int} {k : Nat} (h : k < ns.length) : ixD (.lsx (ns.map D.int)) (.int (k : Nat)) = some (.int ns[k]) := by
  show atI (ns.map D.int) (k : Nat) = _
  unfold atI ixN
  rw [if_pos (by omega), if_pos (by rw [List.length_map]; omega)]
  simp [h]
theorem tgN_ {Δ : DEnv} {i : Nat} {d : D} (h : canSet Δ i = true) : tgN i d Δ = some (Δ.set i (.va d)) := if_pos h
/-- a walk that goes through, then the rest -/
theorem forM_app {tgt : D → DEnv → Option DEnv} {body : DEnv → SRes} {P : Nat → DEnv → Prop} (ys : List D) : ∀ {xs : List D} {Δ : DEnv} (k : Nat), P k Δ → (∀ i d Δ, xs[i]? = some d → P (k + i) Δ → ∃ Δ1 Δ2, tgt d Δ = some Δ1 ∧ body Δ1 = .nx Δ2 ∧ P (k + i + 1) Δ2) → ∃ Δ', forM tgt body (xs ++ ys) Δ = forM tgt body ys Δ' ∧ P (k + xs.length) Δ'
  | [], Δ, k, h0, _ => ⟨Δ, rfl, h0⟩
  | x :: xs, Δ, k, h0, hs => by
    obtain ⟨Δ1, Δ2, e1, e2, e3⟩ := hs 0 x Δ rfl h0
    obtain ⟨Δ', f1, f2⟩ := forM_app ys (xs := xs) (Δ := Δ2) (k + 1) e3 fun i d Δ hi hp => by
      have := hs (i + 1) d Δ (by simpa using hi) (by rw [show k + (i + 1) = k + 1 + i by omega]; exact hp)
      rw [show k + (i + 1) + 1 = k + 1 + i + 1 by omega] at this
      exact this
    refine ⟨Δ', ?_, by rw [List.length_cons, show k + (xs.length + 1) = k + 1 + xs.length by omega]; exact f2⟩
    show (match tgt x Δ with | none => SRes.stuck | some Δ1 => (body Δ1).loop (forM tgt body (xs ++ ys))) = _
    rw [e1]
    show (body Δ1).loop (forM tgt body (xs ++ ys)) = _
    rw [e2, loop_nx, f1]
theorem forM_cons {tgt : D → DEnv → Option DEnv} {body : DEnv → SRes} {x : D} {xs : List D} {Δ Δ1 : DEnv} (h : tgt x Δ = some Δ1) : forM tgt body (x :: xs) Δ = (body Δ1).loop (forM tgt body xs) := by
  show (match tgt x Δ with | none => SRes.stuck | some Δ1 => (body Δ1).loop (forM tgt body xs)) = _
  rw [h]
theorem forM_nil {tgt : D → DEnv → Option DEnv} {body : DEnv → SRes} {Δ : DEnv} : forM tgt body [] Δ = .nx Δ := rfl
/-- a comprehension that goes through -/
theorem compM_ok {vs : List Nat} {tgt : D → DEnv → Option DEnv} {cond : DEnv → Res Bool} {elt : DEnv → Res D} {Δ : DEnv} : ∀ {xs ys acc : List D}, xs.length = ys.length →
    (∀ (i : Nat) x, xs[i]? = some x → ∃ Δ1 Δ3 y, tgt x (wipeD Δ vs) = some Δ1 ∧ cond Δ1 = .ok true Δ1 ∧ elt Δ1 = .ok y Δ3 ∧ ys[i]? = some y ∧ restD Δ Δ3 vs = Δ) → compM vs tgt cond elt xs acc Δ = .ok (acc ++ ys) Δ
  | [], [], acc, _, _ => by rw [List.append_nil]; rfl
  | x :: xs, y :: ys, acc, hl, h => by
    obtain ⟨Δ1, Δ3, z, e1, e2, e3, e4, e5⟩ := h 0 x rfl
    cases e4
    have ih := compM_ok (cond := cond) (elt := elt) (xs := xs) (ys := ys) (acc := acc ++ [y]) (by simpa using hl) fun i x hi => h (i + 1) x (by simpa using hi)
    unfold compM
    rw [e1]
    show (cond Δ1).nox.bind _ = _
    rw [e2, nox_ok_, bind_ok_, if_pos rfl, e3, nox_ok_, bind_ok_, e5, ih, List.append_assoc]; rfl
  | [], _ :: _, _, hl, _ => by simp at hl
  | _ :: _, [], _, hl, _ => by simp at hl
theorem rangeL_get {lo : Int} {n i : Nat} {d : D} (h : (rangeL lo n)[i]? = some d) : i < n ∧ d = .int (lo + (i : Int)) := by
  unfold rangeL at h
  rw [List.getElem?_map] at h
  cases q : (List.range n)[i]? with
  | none => rw [q] at h; cases h
  | some j =>
    rw [q] at h
    cases h
    have hi : i < n := by have := (List.getElem?_eq_some_iff.mp q).1; simpa using this
    rw [List.getElem?_range hi] at q; cases q; exact ⟨hi, rfl⟩
theorem rangeL_len {lo : Int} {n : Nat} : (rangeL lo n).length = n := by simp [rangeL]
theorem rangeC_get {lo c : Int} {n i : Nat} {d : D} (h : (rangeC lo c n)[i]? = some d) : i < n ∧ d = .int (lo + (i : Int) * c) := by
  unfold rangeC at h
  rw [List.getElem?_map] at h
  cases q : (List.range n)[i]? with
  | none => rw [q] at h; cases h
  | some j =>
    rw [q] at h
    cases h
    have hi : i < n := by have := (List.getElem?_eq_some_iff.mp q).1; simpa using this
    rw [List.getElem?_range hi] at q; cases q; exact ⟨hi, rfl⟩
theorem rangeC_len {lo c : Int} {n : Nat} : (rangeC lo c n).length = n := by simp [rangeC]
/-! texts by their signs -/
def S (l : List Nat) : Str := ⟨l.toArray⟩
theorem S_app (a b : List Nat) : S a ++ S b = S (a ++ b) := by
  show Str.append (S a) (S b) = _
  unfold Str.append S; simp
theorem S_len (a : List Nat) : (S a).length = a.length := by unfold Str.length S; simp
theorem S_inj {a b : List Nat} : S a = S b ↔ a = b := by
  constructor
  · intro h; have := congrArg (fun s : Str => s.cps.toList) h; simpa [S] using this
  · intro h; rw [h]
theorem opV_ok {α : Type} {f : D → D → Option α} {i : Nat} {mb : DEnv → Res D} {Δ : DEnv} {x y : D} {z : α} (h : rdR Δ i = some x) (hb : mb Δ = .ok y Δ) (hf : f x y = some z) : opV f i mb Δ = .ok z Δ := by
  unfold opV
  rw [h, hb]
  show Res.opt ((rdR Δ i).bind fun x => f x y) Δ = _
  rw [h, Option.bind_some, hf]; rfl
theorem opM_ok {α : Type} {f : D → D → Option α} {ma mb : DEnv → Res D} {Δ Δ1 Δ2 : DEnv} {x y : D} {z : α} (h : ma Δ = .ok x Δ1) (hb : mb Δ1 = .ok y Δ2) (hf : f x y = some z) : opM f ma mb Δ = .ok z Δ2 := by
  rw [opM_, h, bind_ok_, hb, bind_ok_, hf]; rfl
/-! calls with values alone -/
theorem backD_in1 {d : D} {cs Δ : DEnv} : backD [Sum.inl d] cs Δ = Δ := by
  cases cs with
  | nil => rfl
  | cons c cs => cases cs <;> rfl
theorem backD_in2 {d e : D} {cs Δ : DEnv} : backD [Sum.inl d, Sum.inl e] cs Δ = Δ := by
  cases cs with
  | nil => rfl
  | cons c cs => exact backD_in1
theorem callV1 {F : DEnv → FRes} {m : DEnv → Res D} {Δ Δ1 cs : DEnv} {d r : D} (h : m Δ = .ok d Δ1) (hF : F [.va d] = .ok r cs) : callM F (aV m (cst ([] : List Arg))) Δ = .ok r Δ1 := by
  unfold callM callG
  rw [aV_, h, bind_ok_, map_ok_, bind_ok_]
  show FRes.toR [Sum.inl d] Δ1 (F [.va d]) = _
  rw [hF]
  show Res.ok r (backD [Sum.inl d] cs Δ1) = _
  rw [backD_in1]
theorem callV1x {F : DEnv → FRes} {m : DEnv → Res D} {Δ Δ1 cs : DEnv} {d : D} {x : Exc} (h : m Δ = .ok d Δ1) (hF : F [.va d] = .ex x cs) : callM F (aV m (cst ([] : List Arg))) Δ = .ex x Δ1 := by
  unfold callM callG
  rw [aV_, h, bind_ok_, map_ok_, bind_ok_]
  show FRes.toR [Sum.inl d] Δ1 (F [.va d]) = _
  rw [hF]
  show Res.ex x (backD [Sum.inl d] cs Δ1) = _
  rw [backD_in1]
theorem callV1f {F : DEnv → FRes} {m : DEnv → Res D} {Δ Δ1 cs : DEnv} {d : D} {r : List D} (h : m Δ = .ok d Δ1) (hF : F [.va d] = .fr r cs) : callF F (aV m (cst ([] : List Arg))) Δ = .ok r Δ1 := by
  unfold callF callG
  rw [aV_, h, bind_ok_, map_ok_, bind_ok_]
  show FRes.toF [Sum.inl d] Δ1 (F [.va d]) = _
  rw [hF]
  show Res.ok r (backD [Sum.inl d] cs Δ1) = _
  rw [backD_in1]
theorem callV2 {F : DEnv → FRes} {m n : DEnv → Res D} {Δ Δ1 Δ2 cs : DEnv} {d e r : D} (h : m Δ = .ok d Δ1) (h2 : n Δ1 = .ok e Δ2) (hF : F [.va d, .va e] = .ok r cs) : callM F (aV m (aV n (cst ([] : List Arg)))) Δ = .ok r Δ2 := by
  unfold callM callG
  rw [aV_, h, bind_ok_, aV_, h2, bind_ok_, map_ok_, map_ok_, bind_ok_]
  show FRes.toR [Sum.inl d, Sum.inl e] Δ2 (F [.va d, .va e]) = _
  rw [hF]
  show Res.ok r (backD [Sum.inl d, Sum.inl e] cs Δ2) = _
  rw [backD_in2]
theorem varM_va {i : Nat} {Δ : DEnv} {d : D} (h : Δ[i]? = some (.va d)) : varM i Δ = .ok d Δ := by unfold varM; rw [h]
theorem varR_ok {i : Nat} {Δ : DEnv} {d : D} (h : rdR Δ i = some d) : varR i Δ = .ok d Δ := by rw [varR_, h]; rfl
theorem asB_ok {m : DEnv → Res D} {Δ Δ1 : DEnv} {b : Bool} (h : m Δ = .ok (.bl b) Δ1) : asB m Δ = .ok b Δ1 := by rw [asB_, h]; rfl
theorem lstE_ok {m : DEnv → Res (List D)} {Δ Δ1 : DEnv} {xs : List D} (h : m Δ = .ok xs Δ1) : lstE m Δ = .ok (.lst xs) Δ1 := by rw [lstE_, h]; rfl
theorem ifS_ok {t : DEnv → Res Bool} {a b : DEnv → SRes} {Δ Δ1 : DEnv} {k : Bool} (h : t Δ = .ok k Δ1) : ifS t a b Δ = if k = true then a Δ1 else b Δ1 := by rw [ifS_, h]; rfl
theorem setS_ok {i : Nat} {m : DEnv → Res D} {Δ Δ1 : DEnv} {d : D} (h : m Δ = .ok d Δ1) (hc : canSet Δ1 i = true) : setS i m Δ = .nx (Δ1.set i (.va d)) := by
  rw [setS_, h, s_ok_]; unfold setM; rw [if_pos hc]
theorem or_ok {m n : DEnv → Res Bool} {Δ Δ1 Δ2 : DEnv} (h : m Δ = .ok false Δ1) (h2 : n Δ1 = .ok false Δ2) : orM m n Δ = .ok false Δ2 := by rw [orM_, h, bind_ok_]; exact h2
theorem andV_ok {m n : DEnv → Res D} {Δ Δ1 Δ2 : DEnv} {b : Bool} (h : m Δ = .ok (.bl true) Δ1) (h2 : n Δ1 = .ok (.bl b) Δ2) : andV m n Δ = .ok (.bl b) Δ2 := by rw [andV_, h, bind_ok_]; exact h2
theorem retS_ok {m : DEnv → Res D} {Δ Δ1 : DEnv} {d : D} (h : m Δ = .ok d Δ1) : retS m Δ = .rt d Δ1 := by rw [retS_, h]; rfl
namespace Cm
def law_deck_b1 : DEnv → SRes := (sq (exprS (appendM 3 (opM modD (call1 intD1 (varR 7)) (cst (D.int 1000003))))) (setS 7 (opV divD 7 (cst (D.int 1000003)))))
def law_deck_b2 : DEnv → SRes := (sq (setS 4 (opM modD (call1 intD1 (opM addD (opM addD (opV mulD 4 (cst (D.int 69621))) (varR 8)) (cst (D.int 1)))) (cst (D.int 2147483629)))) (exprS (appendM 3 (opM modD (call1 intD1 (opV divD 4 (cst (D.int 5)))) (cst (D.int 1000003))))))
def law_deck_b3 : DEnv → SRes := (sq (setS 6 (cst (D.int 0))) (sq (ifS (asB (opV ltG 5 (call1 lenD (varR 0)))) (setS 6 (opV ixD 0 (varR 5))) SRes.nx) (sq (setS 7 (call1 absD (varR 6))) (ifS (asB (opV geG 7 (opM powD (cst (D.int 10)) (cst (D.int 30))))) (forS (range1M (varM 2)) (tgN 8) law_deck_b1) (sq (setS 4 (opM modD (call1 intD1 (opM addD (opM addD (opM addD (opV mulD 4 (cst (D.int 48271))) (opM mulD (cst (D.int 2)) (varR 7))) (call1 intD1 (opV ltG 6 (cst (D.int 0))))) (varR 5))) (cst (D.int 2147483647)))) (forS (range1M (varM 2)) (tgN 8) law_deck_b2))))))
def m_law_deck : DEnv → SRes := (sq (setOS 3 (lstM (cst ([] : List D)))) (sq (setS 4 (opM addD (cst (D.int 7)) (call1 lenD (varR 0)))) (sq (forS (range1M (varM 1)) (tgN 5) law_deck_b3) (sq (exprS (reverseM 3)) (retO 3)))))
def F_law_deck : DEnv → FRes := bodyF 3 9 m_law_deck
def m_law_take : DEnv → SRes := (sq (ifS (asB (opM eqD (call1 lenD (varR 0)) (cst (D.int 0)))) (retS (cst (D.int 0))) SRes.nx) (retS (opM modD (call1 intD1 (popM 0)) (varR 1))))
def F_law_take : DEnv → FRes := bodyF 2 2 m_law_take
/-- what a deal gives, and what is left -/
def tk (l : List Int) (m : Int) : Int := match l.getLast? with
  | none => 0
  | some z => z % m
theorem take_ok (l : List Int) (m : Int) (hm : 0 < m) : F_law_take [.pa (l.map D.int), .va (.int m)] = .ok (.int (tk l m)) [.pa (l.dropLast.map D.int), .no] := by
  unfold F_law_take m_law_take
  rw [bodyF_]
  rcases List.eq_nil_or_concat l with rfl | ⟨l', z, rfl⟩
  · simp [rdR, kpD_map, tk]
  · have h : ¬ ((l'.length : Int) + 1 = 0) := by omega
    simp [rdR, kpD_map, tk, h, popM, getL, setL, Cell.list?, modD_int hm]
theorem tk_lt (l : List Int) {m : Int} (hm : 0 < m) : ∃ t : Nat, tk l m = (t : Int) ∧ (t : Int) < m := by
  unfold tk
  cases l.getLast? with
  | none => exact ⟨0, rfl, hm⟩
  | some z =>
    have h1 := Int.emod_nonneg z (Int.ne_of_gt hm)
    have h2 := Int.emod_lt_of_pos z hm
    exact ⟨(z % m).toNat, by show z % m = _; omega, by show ((z % m).toNat : Int) < m; omega⟩
theorem take_call {i : Nat} {Δ : DEnv} {l : List Int} {m : Int} (hm : 0 < m) (h : Δ[i]? = some (.ow (l.map D.int))) : callM F_law_take (aO i (aV (cst (D.int m)) (cst ([] : List Arg)))) Δ = .ok (.int (tk l m)) (Δ.set i (.ow (l.dropLast.map D.int))) := by
  have hg : getL Δ i = some (l.map D.int) := by unfold getL; rw [h]; rfl
  have ha : aO i (aV (cst (D.int m)) (cst ([] : List Arg))) Δ = .ok [Sum.inr i, Sum.inl (.int m)] Δ := by unfold aO; rw [hg]; rfl
  have hc : cellsOf Δ [Sum.inr i, Sum.inl (.int m)] = some [.pa (l.map D.int), .va (.int m)] := by
    show (getL Δ i).bind _ = _
    rw [hg]; rfl
  unfold callM callG
  rw [ha, bind_ok_, hc]
  show (if (slotsOf [Sum.inr i, Sum.inl (D.int m)]).Nodup then FRes.toR [Sum.inr i, Sum.inl (.int m)] Δ (F_law_take [.pa (l.map D.int), .va (.int m)]) else .stuck) = _
  rw [if_pos (by show [i].Nodup; simp), take_ok l m hm]
  show Res.ok (D.int (tk l m)) (setL Δ i (l.dropLast.map D.int)) = _
  unfold setL; rw [h]
theorem deck_b1 {s0 c0 e0 : Cell} {l : List Int} {sd k ce r : Int} {at_ : D} (hl : l.length < 16777216) :
    law_deck_b1 [s0, c0, e0, .ow (l.map D.int), .va (.int sd), .va (.int k), .va (.int ce), .va (.int r), .va at_] = .nx [s0, c0, e0, .ow ((l ++ [r % 1000003]).map D.int), .va (.int sd), .va (.int k), .va (.int ce), .va (.int (r / 1000003)), .va at_] := by
  unfold law_deck_b1
  simp [rdR, getL, setL, Cell.list?, modD_int, divD_int, appendM, opV, hl, setM, canSet_]
theorem deck_b2 {s0 c0 e0 : Cell} {l : List Int} {sd k ce r a : Int} (hl : l.length < 16777216) :
    ∃ sd', law_deck_b2 [s0, c0, e0, .ow (l.map D.int), .va (.int sd), .va (.int k), .va (.int ce), .va (.int r), .va (.int a)] = .nx [s0, c0, e0, .ow ((l ++ [sd' / 5 % 1000003]).map D.int), .va (.int sd'), .va (.int k), .va (.int ce), .va (.int r), .va (.int a)] := by
  refine ⟨(sd * 69621 + a + 1) % 2147483629, ?_⟩
  unfold law_deck_b2
  simp [rdR, getL, setL, Cell.list?, modD_int, divD_int, mulD_r, appendM, opV, hl, setM, canSet_]
theorem deck_l1 {s0 c0 e0 : Cell} {l : List Int} {e k : Nat} {sd z r : Int} {c8 : Cell} (h8 : canC c8 = true) (hl : l.length + e < 16777216) :
    ∃ (l' : List Int) (r' : Int) (d8 : Cell), forM (tgN 8) law_deck_b1 (rangeL 0 e) [s0, c0, e0, .ow (l.map D.int), .va (.int sd), .va (.int k), .va (.int z), .va (.int r), c8] =
      .nx [s0, c0, e0, .ow (l'.map D.int), .va (.int sd), .va (.int k), .va (.int z), .va (.int r'), d8] ∧ l'.length = l.length + e ∧ canC d8 = true := by
  obtain ⟨Δ', e1, l', r, c8', e2, e3, e4⟩ := forM_rng (tgt := tgN 8) (body := law_deck_b1) (lo := 0) (n := e) (Δ := [s0, c0, e0, .ow (l.map D.int), .va (.int sd), .va (.int k), .va (.int z), .va (.int r), c8])
    (P := fun i Δ => ∃ (l' : List Int) (r : Int) (d8 : Cell), Δ = [s0, c0, e0, .ow (l'.map D.int), .va (.int sd), .va (.int k), .va (.int z), .va (.int r), d8] ∧ l'.length = l.length + i ∧ canC d8 = true)
    ⟨l, _, c8, rfl, rfl, h8⟩ fun i Δ hi ⟨l', r, d8, hΔ, hl', h8'⟩ => by
      subst hΔ
      exact ⟨_, _, tgN_ (by simp [canSet_, h8']), deck_b1 (by omega), _, _, _, rfl, by simp; omega, rfl⟩
  exact ⟨l', r, c8', e1.trans (by rw [e2]), e3, e4⟩
theorem deck_l2 {s0 c0 e0 : Cell} {l : List Int} {e k : Nat} {sd z r : Int} {c8 : Cell} (h8 : canC c8 = true) (hl : l.length + e < 16777216) :
    ∃ (l' : List Int) (sd' : Int) (d8 : Cell), forM (tgN 8) law_deck_b2 (rangeL 0 e) [s0, c0, e0, .ow (l.map D.int), .va (.int sd), .va (.int k), .va (.int z), .va (.int r), c8] =
      .nx [s0, c0, e0, .ow (l'.map D.int), .va (.int sd'), .va (.int k), .va (.int z), .va (.int r), d8] ∧ l'.length = l.length + e ∧ canC d8 = true := by
  obtain ⟨Δ', e1, l', sd', c8', e2, e3, e4⟩ := forM_rng (tgt := tgN 8) (body := law_deck_b2) (lo := 0) (n := e) (Δ := [s0, c0, e0, .ow (l.map D.int), .va (.int sd), .va (.int k), .va (.int z), .va (.int r), c8])
    (P := fun i Δ => ∃ (l' : List Int) (sd : Int) (d8 : Cell), Δ = [s0, c0, e0, .ow (l'.map D.int), .va (.int sd), .va (.int k), .va (.int z), .va (.int r), d8] ∧ l'.length = l.length + i ∧ canC d8 = true)
    ⟨l, _, c8, rfl, rfl, h8⟩ fun i Δ hi ⟨l', sd', d8, hΔ, hl', h8'⟩ => by
      subst hΔ
      obtain ⟨sd2, hb⟩ := deck_b2 (s0 := s0) (c0 := c0) (e0 := e0) (l := l') (sd := sd') (k := k) (ce := z) (r := r) (a := 0 + (i : Int)) (by omega)
      exact ⟨_, _, tgN_ (by simp [canSet_, h8']), hb, _, _, _, rfl, by simp; omega, rfl⟩
  exact ⟨l', sd', c8', e1.trans (by rw [e2]), e3, e4⟩
def deck_t : DEnv → SRes := sq (setS 7 (call1 absD (varR 6))) (ifS (asB (opV geG 7 (opM powD (cst (D.int 10)) (cst (D.int 30))))) (forS (range1M (varM 2)) (tgN 8) law_deck_b1) (sq (setS 4 (opM modD (call1 intD1 (opM addD (opM addD (opM addD (opV mulD 4 (cst (D.int 48271))) (opM mulD (cst (D.int 2)) (varR 7))) (call1 intD1 (opV ltG 6 (cst (D.int 0))))) (varR 5))) (cst (D.int 2147483647)))) (forS (range1M (varM 2)) (tgN 8) law_deck_b2)))
theorem deck_tail {s0 c0 : Cell} {l : List Int} {e k : Nat} {sd z : Int} {c7 c8 : Cell} (h7 : canC c7 = true) (h8 : canC c8 = true) (hl : l.length + e < 16777216) :
    ∃ (l' : List Int) (sd' : Int) (d6 d7 d8 : Cell), deck_t [s0, c0, .va (.int e), .ow (l.map D.int), .va (.int sd), .va (.int k), .va (.int z), c7, c8] = .nx [s0, c0, .va (.int e), .ow (l'.map D.int), .va (.int sd'), .va (.int k), d6, d7, d8] ∧ l'.length = l.length + e ∧ canC d6 = true ∧ canC d7 = true ∧ canC d8 = true := by
  have he : (e : Int) < lim62 := by unfold lim62; omega
  have hp : powD (.int 10) (.int 30) = some (.int 1000000000000000000000000000000) := by rw [powD_int (by decide)]; simp
  unfold deck_t
  by_cases hz : (1000000000000000000000000000000 : Int) ≤ (if z < 0 then -z else z)
  · obtain ⟨l', r', d8, e1, e3, e4⟩ := deck_l1 (s0 := s0) (c0 := c0) (e0 := .va (.int e)) (l := l) (e := e) (k := k) (sd := sd) (z := z) (r := if z < 0 then -z else z) h8 hl
    refine ⟨l', sd, .va (.int z), .va (.int r'), d8, ?_, e3, rfl, rfl, e4⟩
    simp [setM, canSet_, h7, rdR, opV, hp, hz, range1_, rng1_nat he, varM, e1]
  · obtain ⟨l', sd', d8, e1, e3, e4⟩ := deck_l2 (s0 := s0) (c0 := c0) (e0 := .va (.int e)) (l := l) (e := e) (k := k) (sd := (sd * 48271 + 2 * (if z < 0 then -z else z) + (if z < 0 then 1 else 0) + k) % 2147483647) (z := z) (r := if z < 0 then -z else z) h8 hl
    refine ⟨l', sd', .va (.int z), .va (.int (if z < 0 then -z else z)), d8, ?_, e3, rfl, rfl, e4⟩
    simp [setM, canSet_, h7, rdR, opV, hp, hz, range1_, rng1_nat he, varM, e1, modD_int, mulD_r, mulD_l]
theorem deck_b3 {ns l : List Int} {c0 : Cell} {e k : Nat} {sd : Int} {c6 c7 c8 : Cell} (h6 : canC c6 = true) (h7 : canC c7 = true) (h8 : canC c8 = true) (hl : l.length + e < 16777216) :
    ∃ (l' : List Int) (sd' : Int) (d6 d7 d8 : Cell), law_deck_b3 [.va (.lsx (ns.map D.int)), c0, .va (.int e), .ow (l.map D.int), .va (.int sd), .va (.int k), c6, c7, c8] = .nx [.va (.lsx (ns.map D.int)), c0, .va (.int e), .ow (l'.map D.int), .va (.int sd'), .va (.int k), d6, d7, d8] ∧
      l'.length = l.length + e ∧ canC d6 = true ∧ canC d7 = true ∧ canC d8 = true := by
  have e0 : law_deck_b3 = sq (setS 6 (cst (D.int 0))) (sq (ifS (asB (opV ltG 5 (call1 lenD (varR 0)))) (setS 6 (opV ixD 0 (varR 5))) SRes.nx) deck_t) := rfl
  rw [e0]
  by_cases hk : k < ns.length
  · obtain ⟨l', sd', d6, d7, d8, h, r⟩ := deck_tail (s0 := .va (.lsx (ns.map D.int))) (c0 := c0) (k := k) (sd := sd) (z := ns[k]) h7 h8 hl
    refine ⟨l', sd', d6, d7, d8, ?_, r⟩
    rw [← h]
    simp [setM, canSet_, h6, rdR, opV, hk, ixD_lsx hk]
  · obtain ⟨l', sd', d6, d7, d8, h, r⟩ := deck_tail (s0 := .va (.lsx (ns.map D.int))) (c0 := c0) (k := k) (sd := sd) (z := 0) h7 h8 hl
    refine ⟨l', sd', d6, d7, d8, ?_, r⟩
    rw [← h]
    simp [setM, canSet_, h6, rdR, opV, hk]
theorem deck_ok (ns : List Int) (c e : Nat) (hc : c < 1000000) (hl : c * e < 16777216) : ∃ l : List Int, l.length = c * e ∧ F_law_deck [.va (.lsx (ns.map D.int)), .va (.int c), .va (.int e)] = .fr (l.map D.int) [.no, .no, .no] := by
  have hcc : (c : Int) < lim62 := by unfold lim62; omega
  obtain ⟨Δ', e1, l', sd', d6, d7, d8, k, e2, e3, e4⟩ := forM_rng (tgt := tgN 5) (body := law_deck_b3) (lo := 0) (n := c) (Δ := [.va (.lsx (ns.map D.int)), .va (.int c), .va (.int e), .ow [], .va (.int (7 + (ns.length : Int))), .no, .no, .no, .no])
    (P := fun i Δ => ∃ (l' : List Int) (sd : Int) (d6 d7 d8 d5 : Cell), Δ = [.va (.lsx (ns.map D.int)), .va (.int c), .va (.int e), .ow (l'.map D.int), .va (.int sd), d5, d6, d7, d8] ∧ l'.length = i * e ∧ canC d5 = true ∧ canC d6 = true ∧ canC d7 = true ∧ canC d8 = true)
    ⟨[], _, _, _, _, _, rfl, by simp, rfl, rfl, rfl, rfl⟩ fun i Δ hi ⟨l', sd', d6, d7, d8, d5, hΔ, hl', h5, h6, h7, h8⟩ => by
      subst hΔ
      have hle : l'.length + e < 16777216 := by
        have : (i + 1) * e ≤ c * e := Nat.mul_le_mul_right e hi
        rw [Nat.add_mul, Nat.one_mul] at this
        omega
      obtain ⟨l2, sd2, c6, c7, c8, h, q1, q2, q3, q4⟩ := deck_b3 (ns := ns) (c0 := .va (.int c)) (e := e) (k := i) (sd := sd') h6 h7 h8 hle
      have hz : (0 : Int) + (i : Int) = (i : Int) := Int.zero_add _
      rw [hz]
      exact ⟨_, _, tgN_ (by simp [canSet_, h5]), h, _, _, _, _, _, _, rfl, by rw [q1, hl', Nat.add_mul, Nat.one_mul], rfl, q2, q3, q4⟩
  refine ⟨l'.reverse, by rw [List.length_reverse, e3], ?_⟩
  subst e2
  unfold F_law_deck m_law_deck
  rw [bodyF_]
  simp [lstM, gd, setO, setM, canSet_, rdR, range1_, rng1_nat hcc, varM, e1, reverseM, getL, setL, Cell.list?, retO, kpD_map]
end Cm
end KL
namespace KL
namespace K01
open PySem L2
abbrev top (i : Nat) : Stmt := PySem.Challenge.pw_kinwork_k01_names_of_numbers.main.body.getD i (.Pass ⟨0, 0, 0, 0⟩)
def y_SYLLABLES : List Str := ["ka", "ke", "ki", "ko", "ku", "ma", "me", "mi", "mo", "mu", "na", "ne", "ni", "no", "nu", "pa", "pe", "pi", "po", "pu", "ta", "te", "ti", "to", "tu"]
abbrev g_SYLLABLES : D := .tup (y_SYLLABLES.map D.str)
def h_InvalidBook : Str → Option Bool := fun n => if n = "InvalidBook" then some true else none
/-! ### term_name -/
abbrev s_term_name : Stmt := top 5
abbrev N_term_name : List Str := ["number", "found"]
abbrev P_term_name : List Str := ["number"]
def term_name_c1 : DEnv → Res Bool := (asB (opV geG 0 (cst (D.int 25))))
def term_name_b2 : DEnv → SRes := (sq (setS 0 (opV divD 0 (cst (D.int 25)))) (setS 1 (opM addD (opM ixD (cst g_SYLLABLES) (opV modD 0 (cst (D.int 25)))) (varR 1))))
def m_term_name : DEnv → SRes := (sq (ifS (orM (notM (truM (isiM "int" (varM 0)))) (orM (truM (isiM "bool" (varM 0))) (asB (opV ltG 0 (cst (D.int 0)))))) (raiseM "InvalidBook" "what" (cst (D.str "number"))) SRes.nx) (sq (setS 1 (opM ixD (cst g_SYLLABLES) (opV modD 0 (cst (D.int 25))))) (sq (whileM term_name_c1 term_name_b2 400) (retS (varM 1)))))
def F_term_name : DEnv → FRes := bodyF 1 2 m_term_name
theorem sc_term_name : FnScope N_term_name P_term_name (defScope s_term_name) := ⟨rfl, rfl, rfl, by decide +kernel, rfl, by decide +kernel, by decide +kernel⟩
/-! ### _law_deck -/
abbrev s_law_deck : Stmt := top 8
abbrev N_law_deck : List Str := ["script", "cells", "each", "deck", "seed", "k", "cell", "rest", "at"]
abbrev P_law_deck : List Str := ["script", "cells", "each"]
def law_deck_b1 : DEnv → SRes := (sq (exprS (appendM 3 (opM modD (call1 intD1 (varR 7)) (cst (D.int 1000003))))) (setS 7 (opV divD 7 (cst (D.int 1000003)))))
def law_deck_b2 : DEnv → SRes := (sq (setS 4 (opM modD (call1 intD1 (opM addD (opM addD (opV mulD 4 (cst (D.int 69621))) (varR 8)) (cst (D.int 1)))) (cst (D.int 2147483629)))) (exprS (appendM 3 (opM modD (call1 intD1 (opV divD 4 (cst (D.int 5)))) (cst (D.int 1000003))))))
def law_deck_b3 : DEnv → SRes := (sq (setS 6 (cst (D.int 0))) (sq (ifS (asB (opV ltG 5 (call1 lenD (varR 0)))) (setS 6 (opV ixD 0 (varR 5))) SRes.nx) (sq (setS 7 (call1 absD (varR 6))) (ifS (asB (opV geG 7 (opM powD (cst (D.int 10)) (cst (D.int 30))))) (forS (range1M (varM 2)) (tgN 8) law_deck_b1) (sq (setS 4 (opM modD (call1 intD1 (opM addD (opM addD (opM addD (opV mulD 4 (cst (D.int 48271))) (opM mulD (cst (D.int 2)) (varR 7))) (call1 intD1 (opV ltG 6 (cst (D.int 0))))) (varR 5))) (cst (D.int 2147483647)))) (forS (range1M (varM 2)) (tgN 8) law_deck_b2))))))
def m_law_deck : DEnv → SRes := (sq (setOS 3 (lstM (cst ([] : List D)))) (sq (setS 4 (opM addD (cst (D.int 7)) (call1 lenD (varR 0)))) (sq (forS (range1M (varM 1)) (tgN 5) law_deck_b3) (sq (exprS (reverseM 3)) (retO 3)))))
def F_law_deck : DEnv → FRes := bodyF 3 9 m_law_deck
theorem sc_law_deck : FnScope N_law_deck P_law_deck (defScope s_law_deck) := ⟨rfl, rfl, rfl, by decide +kernel, rfl, by decide +kernel, by decide +kernel⟩
/-! ### _law_take -/
abbrev s_law_take : Stmt := top 9
abbrev N_law_take : List Str := ["deck", "many"]
abbrev P_law_take : List Str := ["deck", "many"]
def m_law_take : DEnv → SRes := (sq (ifS (asB (opM eqD (call1 lenD (varR 0)) (cst (D.int 0)))) (retS (cst (D.int 0))) SRes.nx) (retS (opM modD (call1 intD1 (popM 0)) (varR 1))))
def F_law_take : DEnv → FRes := bodyF 2 2 m_law_take
theorem sc_law_take : FnScope N_law_take P_law_take (defScope s_law_take) := ⟨rfl, rfl, rfl, by decide +kernel, rfl, by decide +kernel, by decide +kernel⟩
/-! ### _law_name_of -/
abbrev s_law_name_of : Stmt := top 10
abbrev N_law_name_of : List Str := ["number", "syllables", "found"]
abbrev P_law_name_of : List Str := ["number"]
def law_name_of_c1 : DEnv → Res Bool := (asB (opV geG 0 (cst (D.int 25))))
def law_name_of_b2 : DEnv → SRes := (sq (setS 0 (opV divD 0 (cst (D.int 25)))) (setS 2 (opM addD (opV ixD 1 (opM modD (call1 intD1 (varR 0)) (cst (D.int 25)))) (varR 2))))
def m_law_name_of : DEnv → SRes := (sq (setOS 1 (lstM (consM (cst (D.str "ka")) (consM (cst (D.str "ke")) (consM (cst (D.str "ki")) (consM (cst (D.str "ko")) (consM (cst (D.str "ku")) (consM (cst (D.str "ma")) (consM (cst (D.str "me")) (consM (cst (D.str "mi")) (consM (cst (D.str "mo")) (consM (cst (D.str "mu")) (consM (cst (D.str "na")) (consM (cst (D.str "ne")) (consM (cst (D.str "ni")) (consM (cst (D.str "no")) (consM (cst (D.str "nu")) (consM (cst (D.str "pa")) (consM (cst (D.str "pe")) (consM (cst (D.str "pi")) (consM (cst (D.str "po")) (consM (cst (D.str "pu")) (consM (cst (D.str "ta")) (consM (cst (D.str "te")) (consM (cst (D.str "ti")) (consM (cst (D.str "to")) (consM (cst (D.str "tu")) (cst ([] : List D))))))))))))))))))))))))))))) (sq (setS 2 (opV ixD 1 (opM modD (call1 intD1 (varR 0)) (cst (D.int 25))))) (sq (whileM law_name_of_c1 law_name_of_b2 400) (retS (varM 2)))))
def F_law_name_of : DEnv → FRes := bodyF 1 3 m_law_name_of
theorem sc_law_name_of : FnScope N_law_name_of P_law_name_of (defScope s_law_name_of) := ⟨rfl, rfl, rfl, by decide +kernel, rfl, by decide +kernel, by decide +kernel⟩
/-! ### _law_key -/
abbrev s_law_key : Stmt := top 12
abbrev N_law_key : List Str := ["name", "syllables", "at", "one"]
abbrev P_law_key : List Str := ["name"]
def m_law_key : DEnv → SRes := (sq (setOS 1 (lcM [2] (range1M (opM divD (call1 lenD (varR 0)) (cst (D.int 2)))) (tgN 2) (cst true) (slM slSD (varM 0) (someM (opM mulD (cst (D.int 2)) (varR 2))) (someM (opM addD (opM mulD (cst (D.int 2)) (varR 2)) (cst (D.int 2))))))) (retFS (opM catF (lstE (lstM (consM (call1 lenD (varR 1)) (cst ([] : List D))))) (lstE (lcM [3] (seqM (varM 1)) (tgN 3) (cst true) (lstE (lstM (consM (sm1M sindexD (cst (D.str "kmnpt")) (opV ixD 3 (cst (D.int 0)))) (consM (sm1M sindexD (cst (D.str "aeiou")) (opV ixD 3 (cst (D.int 1)))) (cst ([] : List D)))))))))))
def F_law_key : DEnv → FRes := bodyF 1 4 m_law_key
theorem sc_law_key : FnScope N_law_key P_law_key (defScope s_law_key) := ⟨rfl, rfl, rfl, by decide +kernel, rfl, by decide +kernel, by decide +kernel⟩
/-! ### named_number -/
abbrev s_named_number : Stmt := top 6
abbrev N_named_number : List Str := ["name", "number", "at"]
abbrev P_named_number : List Str := ["name"]
def named_number_b1 : DEnv → SRes := (sq (ifS (asB (opM ninD (slM slSD (varM 0) (someM (varM 2)) (someM (opV addD 2 (cst (D.int 2))))) (cst g_SYLLABLES))) (raiseM "InvalidBook" "what" (cst (D.str "name"))) SRes.nx) (setS 1 (opM addD (opV mulD 1 (cst (D.int 25))) (tupIdxM y_SYLLABLES (slM slSD (varM 0) (someM (varM 2)) (someM (opV addD 2 (cst (D.int 2)))))))))
def m_named_number : DEnv → SRes := (sq (ifS (orM (notM (truM (isiM "str" (varM 0)))) (orM (notM (truM (varR 0))) (asB (opM eqD (opM modD (call1 lenD (varR 0)) (cst (D.int 2))) (cst (D.int 1)))))) (raiseM "InvalidBook" "what" (cst (D.str "name"))) SRes.nx) (sq (setS 1 (cst (D.int 0))) (sq (forS (range3M (cst (D.int 0)) (call1 lenD (varR 0)) (cst (D.int 2))) (tgN 2) named_number_b1) (sq (ifS (asB (opM neD (callM F_term_name (aV (varM 1) (cst ([] : List Arg)))) (varR 0))) (raiseM "InvalidBook" "what" (cst (D.str "name"))) SRes.nx) (retS (varM 1))))))
def F_named_number : DEnv → FRes := bodyF 1 3 m_named_number
theorem sc_named_number : FnScope N_named_number P_named_number (defScope s_named_number) := ⟨rfl, rfl, rfl, by decide +kernel, rfl, by decide +kernel, by decide +kernel⟩
/-! ### _law_refusal -/
abbrev s_law_refusal : Stmt := top 11
abbrev N_law_refusal : List Str := ["name", "number", "e"]
abbrev P_law_refusal : List Str := ["name", "number"]
def m_law_refusal : DEnv → SRes := (sq (tryM 2 h_InvalidBook (ifS (asB (opV isD 0 (cst D.non))) (exprS (callM F_term_name (aV (varM 1) (cst ([] : List Arg))))) (exprS (callM F_named_number (aV (varM 0) (cst ([] : List Arg)))))) (retS (xfM 2 "what"))) (retS (cst D.non)))
def F_law_refusal : DEnv → FRes := bodyF 2 3 m_law_refusal
theorem sc_law_refusal : FnScope N_law_refusal P_law_refusal (defScope s_law_refusal) := ⟨rfl, rfl, rfl, by decide +kernel, rfl, by decide +kernel, by decide +kernel⟩
/-! ### law -/
abbrev s_law : Stmt := top 13
abbrev N_law : List Str := ["script", "deck", "turn", "number", "figure", "name"]
abbrev P_law : List Str := ["script"]
def law_b1 : DEnv → SRes := (setS 3 (opM addD (opV mulD 3 (cst (D.int 1000003))) (callM F_law_take (aO 1 (aV (cst (D.int 1000003)) (cst ([] : List Arg)))))))
def law_b2 : DEnv → SRes := (setS 3 (opV mulD 3 (cst (D.int 25))))
def law_b3 : DEnv → SRes := (sq (setS 3 (cst (D.int 0))) (sq (forS (range1M (callM F_law_take (aO 1 (aV (cst (D.int 9)) (cst ([] : List Arg)))))) (tgN 4) law_b1) (sq (ifS (asB (opM eqD (callM F_law_take (aO 1 (aV (cst (D.int 3)) (cst ([] : List Arg))))) (cst (D.int 0)))) (sq (setS 3 (cst (D.int 1))) (sq (forS (range1M (callM F_law_take (aO 1 (aV (cst (D.int 12)) (cst ([] : List Arg)))))) (tgN 2) law_b2) (setS 3 (opM addD (opV subD 3 (cst (D.int 1))) (callM F_law_take (aO 1 (aV (cst (D.int 3)) (cst ([] : List Arg))))))))) SRes.nx) (sq (setS 5 (callM F_law_name_of (aV (varM 3) (cst ([] : List Arg))))) (sq (ifS (orM (asB (opM neD (callM F_term_name (aV (varM 3) (cst ([] : List Arg)))) (varR 5))) (asB (opM neD (callM F_named_number (aV (varM 5) (cst ([] : List Arg)))) (varR 3)))) (retS (cst (D.bl false))) SRes.nx) (sq (ifS (asB (opM leG (lstE (callF F_law_key (aV (callM F_term_name (aV (opV addD 3 (cst (D.int 1))) (cst ([] : List Arg)))) (cst ([] : List Arg))))) (lstE (callF F_law_key (aV (varM 5) (cst ([] : List Arg))))))) (retS (cst (D.bl false))) SRes.nx) (ifS (orM (asB (opM neD (callM F_law_refusal (aV (opM addD (cst (D.str "ka")) (varR 5)) (aV (cst D.non) (cst ([] : List Arg))))) (cst (D.str "name")))) (orM (asB (opM neD (callM F_law_refusal (aV (slM slSD (varM 5) (cst (none : Option Int)) (someM (negM (cst (D.int 1))))) (aV (cst D.non) (cst ([] : List Arg))))) (cst (D.str "name")))) (asB (opM neD (callM F_law_refusal (aV (opM addD (opV addD 5 (cst (D.str "b"))) (cst (D.str "a"))) (aV (cst D.non) (cst ([] : List Arg))))) (cst (D.str "name")))))) (retS (cst (D.bl false))) SRes.nx)))))))
def m_law : DEnv → SRes := (sq (setOS 1 (callF F_law_deck (aV (varM 0) (aV (cst (D.int 4)) (aV (cst (D.int 30)) (cst ([] : List Arg))))))) (sq (forS (range1M (cst (D.int 8))) (tgN 2) law_b3) (retS (andV (opM eqD (callM F_law_refusal (aV (cst D.non) (aV (opM ixD (lstE (lstM (consM (negM (cst (D.int 1))) (consM (cst (D.bl true)) (consM (cst (D.str "ka")) (consM (cst D.non) (cst ([] : List D)))))))) (callM F_law_take (aO 1 (aV (cst (D.int 4)) (cst ([] : List Arg)))))) (cst ([] : List Arg))))) (cst (D.str "number"))) (opM eqD (callM F_law_refusal (aV (opM ixD (lstE (lstM (consM (cst (D.str "")) (consM (cst (D.str "A")) (consM (cst (D.int 7)) (consM (tupM (consM (cst (D.str "ka")) (cst ([] : List D)))) (cst ([] : List D)))))))) (callM F_law_take (aO 1 (aV (cst (D.int 4)) (cst ([] : List Arg)))))) (aV (cst D.non) (cst ([] : List Arg))))) (cst (D.str "name")))))))
def F_law : DEnv → FRes := bodyF 1 6 m_law
theorem sc_law : FnScope N_law P_law (defScope s_law) := ⟨rfl, rfl, rfl, by decide +kernel, rfl, by decide +kernel, by decide +kernel⟩
/-! ### what the top has written -/
structure Ad where
  f_term_name : Addr
  f_named_number : Addr
  f_law_deck : Addr
  f_law_take : Addr
  f_law_name_of : Addr
  f_law_refusal : Addr
  f_law_key : Addr
  f_law : Addr
  c_KinError : Addr
  c_InvalidBook : Addr
  i_KinError : Addr
  i_InvalidBook : Addr
  c_SYLLABLES : Addr
def lx (K : PySem.W.Frag) (ad : Ad) : Lx := ⟨K, fun n => [(("InvalidBook" : Str), ad.c_InvalidBook)].lookup n, none⟩
structure Tx (P : Program) (K : PySem.W.Frag) (mg : Str → Option Value) (ad : Ad) : Prop where
  z_abs : mg "abs" = none
  z_bool : mg "bool" = none
  z_int : mg "int" = none
  z_isinstance : mg "isinstance" = none
  z_len : mg "len" = none
  z_range : mg "range" = none
  z_str : mg "str" = none
  g_term_name : mg "term_name" = some (.ref ad.f_term_name)
  d_term_name : Dn K "term_name" s_term_name ad.f_term_name P_term_name
  g_named_number : mg "named_number" = some (.ref ad.f_named_number)
  d_named_number : Dn K "named_number" s_named_number ad.f_named_number P_named_number
  g_law_deck : mg "_law_deck" = some (.ref ad.f_law_deck)
  d_law_deck : Dn K "_law_deck" s_law_deck ad.f_law_deck P_law_deck
  g_law_take : mg "_law_take" = some (.ref ad.f_law_take)
  d_law_take : Dn K "_law_take" s_law_take ad.f_law_take P_law_take
  g_law_name_of : mg "_law_name_of" = some (.ref ad.f_law_name_of)
  d_law_name_of : Dn K "_law_name_of" s_law_name_of ad.f_law_name_of P_law_name_of
  g_law_refusal : mg "_law_refusal" = some (.ref ad.f_law_refusal)
  d_law_refusal : Dn K "_law_refusal" s_law_refusal ad.f_law_refusal P_law_refusal
  g_law_key : mg "_law_key" = some (.ref ad.f_law_key)
  d_law_key : Dn K "_law_key" s_law_key ad.f_law_key P_law_key
  g_law : mg "law" = some (.ref ad.f_law)
  d_law : Dn K "law" s_law ad.f_law P_law
  x_InvalidBook : XTxt P K mg "InvalidBook" ad.c_InvalidBook ad.i_InvalidBook
  e_InvalidBook : PySem.W.exmOne K (.ref ad.c_InvalidBook) (.ref ad.c_InvalidBook) = some true
  t_SYLLABLES : TupS K mg "SYLLABLES" ad.c_SYLLABLES y_SYLLABLES
section
variable {P : Program} {w : World} {K : PySem.W.Frag} {mg : Str → Option Value} {base : Heap} {ad : Ad}
theorem hm_InvalidBook (T : Tx P K mg ad) : ∀ m b, h_InvalidBook m = some b → ∀ C, (lx K ad).ct m = some C → PySem.W.exmOne K (.ref C) (.ref ad.c_InvalidBook) = some b := by
  intro m b h C hc
  unfold h_InvalidBook at h
  split at h
  · rename_i e; subst e; cases h; cases hc; exact T.e_InvalidBook
  · cases h
theorem Tx.good (T : Tx P K mg ad) : ∀ m C, (lx K ad).ct m = some C → XfC K C ∧ PySem.W.findIn K (.ref C) "what" = some none := by
  intro m C h
  unfold lx at h; simp only [List.lookup] at h
  repeat (split at h)
  · cases h; exact ⟨⟨T.x_InvalidBook.ga, T.x_InvalidBook.gg, T.x_InvalidBook.exC, T.x_InvalidBook.hdC⟩, T.x_InvalidBook.noN⟩
  · cases h
theorem ok_term_name (T : Tx P K mg ad) : Cal P w K mg base (lx K ad) ad.f_term_name 1 P_term_name F_term_name :=
  cal_body (k := 0) T.d_term_name sc_term_name fun cdv ar outer s H E hr tk => (by exact ss_cons (by exact s_if (by exact DW.t (by exact w_or (by exact t_not (by exact t_truth (by exact DE.r (by exact d_isi (T := "int") rfl T.z_isinstance (by first | rfl | kernel_rfl) (by decide) (by decide) rfl T.z_int (by first | rfl | kernel_rfl) (by decide) (by decide) (by exact de_var (i := 0) rfl (Or.inl rfl) (by decide) (by decide)))) (fun _ => rfl))) (by exact w_or (by exact t_truth (by exact DE.r (by exact d_isi (T := "bool") rfl T.z_isinstance (by first | rfl | kernel_rfl) (by decide) (by decide) rfl T.z_bool (by first | rfl | kernel_rfl) (by decide) (by decide) (by exact de_var (i := 0) rfl (Or.inl rfl) (by decide) (by decide)))) (fun _ => rfl)) (by exact w_or1 (by exact t_cmpV (op_ltG (hu64 hr)) ops_ordG rfl (i := 0) rfl (Or.inl rfl) (by decide) (by decide) (by exact DE.r de_int)))))) (by exact ss_one (by exact s_raise rfl T.x_InvalidBook hr tk rfl de_str rfl (by decide))) ss_nil) (by exact ss_cons (by exact s_set sc_term_name.nd (i := 1) rfl (Or.inl rfl) (by exact d_ix (fun _ _ => rfl) (by exact de_glob (v := .ref ad.c_SYLLABLES) rfl T.t_SYLLABLES.g rfl (fun F => T.t_SYLLABLES.rep F) (by decide)) (by exact DE.r (by exact d_binV op_mod ops_mod (i := 0) rfl (Or.inl rfl) (by decide) (by decide) (by exact DE.r de_int))))) (by exact ss_cons (by exact s_while (passes_of rfl) (mt := term_name_c1) (m := term_name_b2) (by exact t_cmpV (op_geG (hu64 hr)) ops_ordG rfl (i := 0) rfl (Or.inl rfl) (by decide) (by decide) (by exact DE.r de_int)) (by exact ss_cons (by exact s_set sc_term_name.nd (i := 0) rfl (Or.inl rfl) (by exact d_binV op_fdiv ops_div (i := 0) rfl (Or.inl rfl) (by decide) (by decide) (by exact DE.r de_int))) (by exact ss_one (by exact s_set sc_term_name.nd (i := 1) rfl (Or.inl rfl) (by exact d_bin op_addA ops_add (by exact d_ix (fun _ _ => rfl) (by exact de_glob (v := .ref ad.c_SYLLABLES) rfl T.t_SYLLABLES.g rfl (fun F => T.t_SYLLABLES.rep F) (by decide)) (by exact DE.r (by exact d_binV op_mod ops_mod (i := 0) rfl (Or.inl rfl) (by decide) (by decide) (by exact DE.r de_int)))) (by exact dr_var (i := 1) rfl (Or.inl rfl) (by decide) (by decide))))))) (by exact ss_one (by exact s_ret (by exact de_var (i := 1) rfl (Or.inl rfl) (by decide) (by decide)))))))
theorem ok_law_deck (T : Tx P K mg ad) : Cal P w K mg base (lx K ad) ad.f_law_deck 1 P_law_deck F_law_deck :=
  cal_body (k := 0) T.d_law_deck sc_law_deck fun cdv ar outer s H E hr tk => (by exact ss_cons (by exact s_setF sc_law_deck.nd (i := 3) rfl (Or.inl rfl) (by exact f_lst a_nil)) (by exact ss_cons (by exact s_set sc_law_deck.nd (i := 4) rfl (Or.inl rfl) (by exact d_bin op_addA ops_add de_int (by exact DE.r (by exact d_callB1 call_len calls_len rfl T.z_len (by first | rfl | kernel_rfl) (by decide) (by decide) (by exact dr_var (i := 0) rfl (Or.inl rfl) (by decide) (by decide)))))) (by exact ss_cons (by exact s_for (passes_of rfl) (by exact i_range1 rfl T.z_range (by exact de_var (i := 1) rfl (Or.inl rfl) (by decide) (by decide))) (by exact g_name sc_law_deck.nd (i := 5) rfl (Or.inl rfl)) (m := law_deck_b3) (by exact ss_cons (by exact s_set sc_law_deck.nd (i := 6) rfl (Or.inl rfl) de_int) (by exact ss_cons (by exact s_if (by exact t_cmpV (op_ltG (hu64 hr)) ops_ordG rfl (i := 5) rfl (Or.inl rfl) (by decide) (by decide) (by exact DE.r (by exact d_callB1 call_len calls_len rfl T.z_len (by first | rfl | kernel_rfl) (by decide) (by decide) (by exact dr_var (i := 0) rfl (Or.inl rfl) (by decide) (by decide))))) (by exact ss_one (by exact s_set sc_law_deck.nd (i := 6) rfl (Or.inl rfl) (by exact d_ixV (fun _ _ => rfl) (i := 0) rfl (Or.inl rfl) (by decide) (by decide) (by exact dr_var (i := 5) rfl (Or.inl rfl) (by decide) (by decide))))) ss_nil) (by exact ss_cons (by exact s_set sc_law_deck.nd (i := 7) rfl (Or.inl rfl) (by exact d_callB1 call_abs calls_abs rfl T.z_abs (by first | rfl | kernel_rfl) (by decide) (by decide) (by exact dr_var (i := 6) rfl (Or.inl rfl) (by decide) (by decide)))) (by exact ss_one (by exact s_if (by exact t_cmpV (op_geG (hu64 hr)) ops_ordG rfl (i := 7) rfl (Or.inl rfl) (by decide) (by decide) (by exact DE.r (by exact d_bin op_pow ops_pow de_int (by exact DE.r de_int)))) (by exact ss_one (by exact s_for (passes_of rfl) (by exact i_range1 rfl T.z_range (by exact de_var (i := 2) rfl (Or.inl rfl) (by decide) (by decide))) (by exact g_name sc_law_deck.nd (i := 8) rfl (Or.inl rfl)) (m := law_deck_b1) (by exact ss_cons (by exact s_expr (by exact d_append rfl (i := 3) rfl (Or.inl rfl) (by decide) (by decide) (by exact d_bin op_mod ops_mod (by exact d_callT1 call_int1 calls_int rfl T.z_int (by first | rfl | kernel_rfl) (by decide) (by decide) (by exact dr_var (i := 7) rfl (Or.inl rfl) (by decide) (by decide))) (by exact DE.r de_int)))) (by exact ss_one (by exact s_set sc_law_deck.nd (i := 7) rfl (Or.inl rfl) (by exact d_binV op_fdiv ops_div (i := 7) rfl (Or.inl rfl) (by decide) (by decide) (by exact DE.r de_int))))))) (by exact ss_cons (by exact s_set sc_law_deck.nd (i := 4) rfl (Or.inl rfl) (by exact d_bin op_mod ops_mod (by exact d_callT1 call_int1 calls_int rfl T.z_int (by first | rfl | kernel_rfl) (by decide) (by decide) (by exact DE.r (by exact d_bin op_addA ops_add (by exact d_bin op_addA ops_add (by exact d_bin op_addA ops_add (by exact d_binV op_mul ops_mul (i := 4) rfl (Or.inl rfl) (by decide) (by decide) (by exact DE.r de_int)) (by exact DE.r (by exact d_bin op_mul ops_mul de_int (by exact dr_var (i := 7) rfl (Or.inl rfl) (by decide) (by decide))))) (by exact DE.r (by exact d_callT1 call_int1 calls_int rfl T.z_int (by first | rfl | kernel_rfl) (by decide) (by decide) (by exact DE.r (by exact d_cmpV (op_ltG (hu64 hr)) ops_ordG rfl (i := 6) rfl (Or.inl rfl) (by decide) (by decide) (by exact DE.r de_int)))))) (by exact dr_var (i := 5) rfl (Or.inl rfl) (by decide) (by decide))))) (by exact DE.r de_int))) (by exact ss_one (by exact s_for (passes_of rfl) (by exact i_range1 rfl T.z_range (by exact de_var (i := 2) rfl (Or.inl rfl) (by decide) (by decide))) (by exact g_name sc_law_deck.nd (i := 8) rfl (Or.inl rfl)) (m := law_deck_b2) (by exact ss_cons (by exact s_set sc_law_deck.nd (i := 4) rfl (Or.inl rfl) (by exact d_bin op_mod ops_mod (by exact d_callT1 call_int1 calls_int rfl T.z_int (by first | rfl | kernel_rfl) (by decide) (by decide) (by exact DE.r (by exact d_bin op_addA ops_add (by exact d_bin op_addA ops_add (by exact d_binV op_mul ops_mul (i := 4) rfl (Or.inl rfl) (by decide) (by decide) (by exact DE.r de_int)) (by exact dr_var (i := 8) rfl (Or.inl rfl) (by decide) (by decide))) (by exact DE.r de_int)))) (by exact DE.r de_int))) (by exact ss_one (by exact s_expr (by exact d_append rfl (i := 3) rfl (Or.inl rfl) (by decide) (by decide) (by exact d_bin op_mod ops_mod (by exact d_callT1 call_int1 calls_int rfl T.z_int (by first | rfl | kernel_rfl) (by decide) (by decide) (by exact DE.r (by exact d_binV op_fdiv ops_div (i := 4) rfl (Or.inl rfl) (by decide) (by decide) (by exact DE.r de_int)))) (by exact DE.r de_int))))))))))))))) (by exact ss_cons (by exact s_expr (by exact d_reverse rfl (i := 3) rfl (Or.inl rfl) (by decide) (by decide))) (by exact ss_one (by exact s_retO (i := 3) rfl (Or.inl rfl) (by decide) (by decide)))))))
theorem ok_law_take (T : Tx P K mg ad) : Cal P w K mg base (lx K ad) ad.f_law_take 1 P_law_take F_law_take :=
  cal_body (k := 0) T.d_law_take sc_law_take fun cdv ar outer s H E hr tk => (by exact ss_cons (by exact s_if (by exact t_cmp (op_eqA (hu64 hr)) ops_eq rfl (by exact d_callB1 call_len calls_len rfl T.z_len (by first | rfl | kernel_rfl) (by decide) (by decide) (by exact dr_var (i := 0) rfl (Or.inl rfl) (by decide) (by decide))) (by exact DE.r de_int)) (by exact ss_one (by exact s_ret de_int)) ss_nil) (by exact ss_one (by exact s_ret (by exact d_bin op_mod ops_mod (by exact d_callT1 call_int1 calls_int rfl T.z_int (by first | rfl | kernel_rfl) (by decide) (by decide) (by exact DE.r (by exact d_pop rfl (i := 0) rfl (Or.inl rfl) (by decide) (by decide)))) (by exact dr_var (i := 1) rfl (Or.inl rfl) (by decide) (by decide))))))
theorem ok_law_name_of (T : Tx P K mg ad) : Cal P w K mg base (lx K ad) ad.f_law_name_of 1 P_law_name_of F_law_name_of :=
  cal_body (k := 0) T.d_law_name_of sc_law_name_of fun cdv ar outer s H E hr tk => (by exact ss_cons (by exact s_setF sc_law_name_of.nd (i := 1) rfl (Or.inl rfl) (by exact f_lst (by exact a_cons de_str (by exact a_cons de_str (by exact a_cons de_str (by exact a_cons de_str (by exact a_cons de_str (by exact a_cons de_str (by exact a_cons de_str (by exact a_cons de_str (by exact a_cons de_str (by exact a_cons de_str (by exact a_cons de_str (by exact a_cons de_str (by exact a_cons de_str (by exact a_cons de_str (by exact a_cons de_str (by exact a_cons de_str (by exact a_cons de_str (by exact a_cons de_str (by exact a_cons de_str (by exact a_cons de_str (by exact a_cons de_str (by exact a_cons de_str (by exact a_cons de_str (by exact a_cons de_str (by exact a_cons de_str a_nil))))))))))))))))))))))))))) (by exact ss_cons (by exact s_set sc_law_name_of.nd (i := 2) rfl (Or.inl rfl) (by exact d_ixV (fun _ _ => rfl) (i := 1) rfl (Or.inl rfl) (by decide) (by decide) (by exact DE.r (by exact d_bin op_mod ops_mod (by exact d_callT1 call_int1 calls_int rfl T.z_int (by first | rfl | kernel_rfl) (by decide) (by decide) (by exact dr_var (i := 0) rfl (Or.inl rfl) (by decide) (by decide))) (by exact DE.r de_int))))) (by exact ss_cons (by exact s_while (passes_of rfl) (mt := law_name_of_c1) (m := law_name_of_b2) (by exact t_cmpV (op_geG (hu64 hr)) ops_ordG rfl (i := 0) rfl (Or.inl rfl) (by decide) (by decide) (by exact DE.r de_int)) (by exact ss_cons (by exact s_set sc_law_name_of.nd (i := 0) rfl (Or.inl rfl) (by exact d_binV op_fdiv ops_div (i := 0) rfl (Or.inl rfl) (by decide) (by decide) (by exact DE.r de_int))) (by exact ss_one (by exact s_set sc_law_name_of.nd (i := 2) rfl (Or.inl rfl) (by exact d_bin op_addA ops_add (by exact d_ixV (fun _ _ => rfl) (i := 1) rfl (Or.inl rfl) (by decide) (by decide) (by exact DE.r (by exact d_bin op_mod ops_mod (by exact d_callT1 call_int1 calls_int rfl T.z_int (by first | rfl | kernel_rfl) (by decide) (by decide) (by exact dr_var (i := 0) rfl (Or.inl rfl) (by decide) (by decide))) (by exact DE.r de_int)))) (by exact dr_var (i := 2) rfl (Or.inl rfl) (by decide) (by decide))))))) (by exact ss_one (by exact s_ret (by exact de_var (i := 2) rfl (Or.inl rfl) (by decide) (by decide)))))))
theorem ok_law_key (T : Tx P K mg ad) : Cal P w K mg base (lx K ad) ad.f_law_key 1 P_law_key F_law_key :=
  cal_body (k := 0) T.d_law_key sc_law_key fun cdv ar outer s H E hr tk => (by exact ss_cons (by exact s_setLc (i := 1) sc_law_key.nd rfl rfl (by rfl) (by exact i_range1 rfl T.z_range (by exact d_bin op_fdiv ops_div (by exact d_callB1 call_len calls_len rfl T.z_len (by first | rfl | kernel_rfl) (by decide) (by decide) (by exact dr_var (i := 0) rfl (Or.inr (Or.inl rfl)) (by decide) (by decide))) (by exact DE.r de_int))) (own := [("at", 2)]) (by exact (show BlkOk N_law_key (defScope s_law_key) _ [("at", 2)] from ⟨rfl, by decide +kernel, by decide +kernel, by decide +kernel, by decide +kernel⟩)) (by exact b_name sc_law_key.nd (i := 2) rfl (fun _ _ _ _ _ => Or.inl rfl) (fun _ _ _ _ _ => by first | exact Or.inl rfl | exact Or.inr rfl) (by decide)) (fun _ _ _ _ _ => ts_nil) (fun _ _ _ _ _ => (by exact d_slS (by exact de_var (i := 0) rfl (by first | exact Or.inr (Or.inr rfl) | exact Or.inr (Or.inl rfl) | exact Or.inl rfl) (by decide) (by decide)) (by exact o_some (by exact d_bin op_mul ops_mul de_int (by exact dr_var (i := 2) rfl (Or.inl rfl) (by decide) (by decide)))) (by exact o_some (by exact d_bin op_addA ops_add (by exact d_bin op_mul ops_mul de_int (by exact dr_var (i := 2) rfl (Or.inl rfl) (by decide) (by decide))) (by exact DE.r de_int)))))) (by exact ss_one (by exact s_retF (by exact f_bin op_cat opf_cat (by exact DF.e (by exact f_lst (by exact a_cons (by exact d_callB1 call_len calls_len rfl T.z_len (by first | rfl | kernel_rfl) (by decide) (by decide) (by exact dr_var (i := 1) rfl (Or.inl rfl) (by decide) (by decide))) a_nil))) (by exact DE.r (by exact DF.e (by exact f_lc sc_law_key.nd (by exact i_seq (by exact de_var (i := 1) rfl (Or.inl rfl) (by decide) (by decide))) (own := [("one", 3)]) (by exact (show BlkOk N_law_key (defScope s_law_key) _ [("one", 3)] from ⟨rfl, by decide +kernel, by decide +kernel, by decide +kernel, by decide +kernel⟩)) (by exact b_name sc_law_key.nd (i := 3) rfl (fun _ _ _ _ _ => Or.inl rfl) (fun _ _ _ _ _ => by first | exact Or.inl rfl | exact Or.inr rfl) (by decide)) (fun _ _ _ _ _ => ts_nil) (fun _ _ _ _ _ => (by exact DF.e (by exact f_lst (by exact a_cons (by exact d_sm1 PySem.F.slot_str_index PySem.F.type_str_index mt_sindex sm_index de_str (by exact DE.r (by exact d_ixV (fun _ _ => rfl) (i := 3) rfl (Or.inl rfl) (by decide) (by decide) (by exact DE.r de_int)))) (by exact a_cons (by exact d_sm1 PySem.F.slot_str_index PySem.F.type_str_index mt_sindex sm_index de_str (by exact DE.r (by exact d_ixV (fun _ _ => rfl) (i := 3) rfl (Or.inl rfl) (by decide) (by decide) (by exact DE.r de_int)))) a_nil))))))))))))
theorem ok_named_number (T : Tx P K mg ad) : Cal P w K mg base (lx K ad) ad.f_named_number 2 P_named_number F_named_number :=
  cal_body (k := 1) T.d_named_number sc_named_number fun cdv ar outer s H E hr tk => (by exact ss_cons (by exact s_if (by exact DW.t (by exact w_or (by exact t_not (by exact t_truth (by exact DE.r (by exact d_isi (T := "str") rfl T.z_isinstance (by first | rfl | kernel_rfl) (by decide) (by decide) rfl T.z_str (by first | rfl | kernel_rfl) (by decide) (by decide) (by exact de_var (i := 0) rfl (Or.inl rfl) (by decide) (by decide)))) (fun _ => rfl))) (by exact w_or (by exact t_not (by exact t_truth (by exact dr_var (i := 0) rfl (Or.inl rfl) (by decide) (by decide)) (fun _ => rfl))) (by exact w_or1 (by exact t_cmp (op_eqA (hu64 hr)) ops_eq rfl (by exact d_bin op_mod ops_mod (by exact d_callB1 call_len calls_len rfl T.z_len (by first | rfl | kernel_rfl) (by decide) (by decide) (by exact dr_var (i := 0) rfl (Or.inl rfl) (by decide) (by decide))) (by exact DE.r de_int)) (by exact DE.r de_int)))))) (by exact ss_one (by exact s_raise rfl T.x_InvalidBook hr tk rfl de_str rfl (by decide))) ss_nil) (by exact ss_cons (by exact s_set sc_named_number.nd (i := 1) rfl (Or.inl rfl) de_int) (by exact ss_cons (by exact s_for (passes_of rfl) (by exact i_range3 rfl T.z_range de_int (by exact d_callB1 call_len calls_len rfl T.z_len (by first | rfl | kernel_rfl) (by decide) (by decide) (by exact dr_var (i := 0) rfl (Or.inl rfl) (by decide) (by decide))) de_int) (by exact g_name sc_named_number.nd (i := 2) rfl (Or.inl rfl)) (m := named_number_b1) (by exact ss_cons (by exact s_if (by exact t_cmp op_ninA ops_nin rfl (by exact d_slS (by exact de_var (i := 0) rfl (Or.inl rfl) (by decide) (by decide)) (by exact o_some (by exact de_var (i := 2) rfl (Or.inl rfl) (by decide) (by decide))) (by exact o_some (by exact d_binV op_addA ops_add (i := 2) rfl (Or.inl rfl) (by decide) (by decide) (by exact DE.r de_int)))) (by exact DE.r (by exact de_glob (v := .ref ad.c_SYLLABLES) rfl T.t_SYLLABLES.g rfl (fun F => T.t_SYLLABLES.rep F) (by decide)))) (by exact ss_one (by exact s_raise rfl T.x_InvalidBook hr tk rfl de_str rfl (by decide))) ss_nil) (by exact ss_one (by exact s_set sc_named_number.nd (i := 1) rfl (Or.inl rfl) (by exact d_bin op_addA ops_add (by exact d_binV op_mul ops_mul (i := 1) rfl (Or.inl rfl) (by decide) (by decide) (by exact DE.r de_int)) (by exact DE.r (by exact let ⟨_, h1, h2, h3⟩ := T.t_SYLLABLES.o; d_tupIdx rfl rfl T.t_SYLLABLES.g (by decide) h1 h2 h3 T.t_SYLLABLES.q (by exact d_slS (by exact de_var (i := 0) rfl (Or.inl rfl) (by decide) (by decide)) (by exact o_some (by exact de_var (i := 2) rfl (Or.inl rfl) (by decide) (by decide))) (by exact o_some (by exact d_binV op_addA ops_add (i := 2) rfl (Or.inl rfl) (by decide) (by decide) (by exact DE.r de_int))))))))))) (by exact ss_cons (by exact s_if (by exact t_cmp (op_neA (hu64 hr)) ops_ne rfl (by exact d_callC (ok_term_name T) hr (by decide) rfl T.g_term_name tk (by exact c_val (by exact de_var (i := 1) rfl (Or.inl rfl) (by decide) (by decide)) c_nil rfl) rfl (by decide) rfl rfl) (by exact dr_var (i := 0) rfl (Or.inl rfl) (by decide) (by decide))) (by exact ss_one (by exact s_raise rfl T.x_InvalidBook hr tk rfl de_str rfl (by decide))) ss_nil) (by exact ss_one (by exact s_ret (by exact de_var (i := 1) rfl (Or.inl rfl) (by decide) (by decide))))))))
theorem ok_law_refusal (T : Tx P K mg ad) : Cal P w K mg base (lx K ad) ad.f_law_refusal 3 P_law_refusal F_law_refusal :=
  cal_body (k := 2) T.d_law_refusal sc_law_refusal fun cdv ar outer s H E hr tk => (by exact ss_cons (by exact s_try rfl rfl sc_law_refusal.nd (i := 2) rfl rfl ⟨rfl, by decide, Or.inl T.x_InvalidBook.gC⟩ tk (hm_InvalidBook T) (fun W pn xe tk po => (by exact ss_one (by exact s_if (by exact t_cmpV op_isN ops_is rfl (i := 0) rfl (Or.inl rfl) (by decide) (by decide) (by exact DE.r de_non)) (by exact ss_one (by exact s_expr (by exact d_callC (ok_term_name T) hr (by decide) rfl T.g_term_name tk (by exact c_val (by exact de_var (i := 1) rfl (Or.inl rfl) (by decide) (by decide)) c_nil rfl) rfl (by decide) rfl rfl))) (by exact ss_one (by exact s_expr (by exact d_callC (ok_named_number T) hr (by decide) rfl T.g_named_number tk (by exact c_val (by exact de_var (i := 0) rfl (Or.inl rfl) (by decide) (by decide)) c_nil rfl) rfl (by decide) rfl rfl)))))) (fun a oe cls d pn hz hf => (by exact ss_one (by exact s_ret (by exact d_xf T.good hz hf (i := 2) rfl (Or.inl rfl)))))) (by exact ss_one (by exact s_ret de_non)))
theorem fn_law (T : Tx P K mg ad) {fd : FuncData} (Fn : Fun K "law" "law" s_law ad.f_law fd) : FnOk P w K mg base (L2.CX P w) 4 ad.f_law fd P_law (spD (lx K ad) P_law.length F_law) :=
  fn_body (k := 3) Fn sc_law fun cdv ar outer s H E hr tk => (by exact ss_cons (by exact s_setF sc_law.nd (i := 1) rfl (Or.inl rfl) (by exact d_callCF (ok_law_deck T) hr (by decide) rfl T.g_law_deck tk (by exact c_val (by exact de_var (i := 0) rfl (Or.inl rfl) (by decide) (by decide)) (by exact c_val de_int (by exact c_val de_int c_nil rfl) rfl) rfl) rfl (by decide) rfl rfl)) (by exact ss_cons (by exact s_for (passes_of rfl) (by exact i_range1 rfl T.z_range de_int) (by exact g_name sc_law.nd (i := 2) rfl (Or.inl rfl)) (m := law_b3) (by exact ss_cons (by exact s_set sc_law.nd (i := 3) rfl (Or.inl rfl) de_int) (by exact ss_cons (by exact s_for (passes_of rfl) (by exact i_range1 rfl T.z_range (by exact d_callC (ok_law_take T) hr (by decide) rfl T.g_law_take tk (by exact c_own (i := 1) rfl (Or.inl rfl) (by decide) (by decide) (by exact c_val de_int c_nil rfl) rfl) rfl (by decide) rfl rfl)) (by exact g_name sc_law.nd (i := 4) rfl (Or.inl rfl)) (m := law_b1) (by exact ss_one (by exact s_set sc_law.nd (i := 3) rfl (Or.inl rfl) (by exact d_bin op_addA ops_add (by exact d_binV op_mul ops_mul (i := 3) rfl (Or.inl rfl) (by decide) (by decide) (by exact DE.r de_int)) (by exact DE.r (by exact d_callC (ok_law_take T) hr (by decide) rfl T.g_law_take tk (by exact c_own (i := 1) rfl (Or.inl rfl) (by decide) (by decide) (by exact c_val de_int c_nil rfl) rfl) rfl (by decide) rfl rfl)))))) (by exact ss_cons (by exact s_if (by exact t_cmp (op_eqA (hu64 hr)) ops_eq rfl (by exact d_callC (ok_law_take T) hr (by decide) rfl T.g_law_take tk (by exact c_own (i := 1) rfl (Or.inl rfl) (by decide) (by decide) (by exact c_val de_int c_nil rfl) rfl) rfl (by decide) rfl rfl) (by exact DE.r de_int)) (by exact ss_cons (by exact s_set sc_law.nd (i := 3) rfl (Or.inl rfl) de_int) (by exact ss_cons (by exact s_for (passes_of rfl) (by exact i_range1 rfl T.z_range (by exact d_callC (ok_law_take T) hr (by decide) rfl T.g_law_take tk (by exact c_own (i := 1) rfl (Or.inl rfl) (by decide) (by decide) (by exact c_val de_int c_nil rfl) rfl) rfl (by decide) rfl rfl)) (by exact g_name sc_law.nd (i := 2) rfl (Or.inl rfl)) (m := law_b2) (by exact ss_one (by exact s_set sc_law.nd (i := 3) rfl (Or.inl rfl) (by exact d_binV op_mul ops_mul (i := 3) rfl (Or.inl rfl) (by decide) (by decide) (by exact DE.r de_int))))) (by exact ss_one (by exact s_set sc_law.nd (i := 3) rfl (Or.inl rfl) (by exact d_bin op_addA ops_add (by exact d_binV op_sub ops_sub (i := 3) rfl (Or.inl rfl) (by decide) (by decide) (by exact DE.r de_int)) (by exact DE.r (by exact d_callC (ok_law_take T) hr (by decide) rfl T.g_law_take tk (by exact c_own (i := 1) rfl (Or.inl rfl) (by decide) (by decide) (by exact c_val de_int c_nil rfl) rfl) rfl (by decide) rfl rfl))))))) ss_nil) (by exact ss_cons (by exact s_set sc_law.nd (i := 5) rfl (Or.inl rfl) (by exact d_callC (ok_law_name_of T) hr (by decide) rfl T.g_law_name_of tk (by exact c_val (by exact de_var (i := 3) rfl (Or.inl rfl) (by decide) (by decide)) c_nil rfl) rfl (by decide) rfl rfl)) (by exact ss_cons (by exact s_if (by exact DW.t (by exact w_or (by exact t_cmp (op_neA (hu64 hr)) ops_ne rfl (by exact d_callC (ok_term_name T) hr (by decide) rfl T.g_term_name tk (by exact c_val (by exact de_var (i := 3) rfl (Or.inl rfl) (by decide) (by decide)) c_nil rfl) rfl (by decide) rfl rfl) (by exact dr_var (i := 5) rfl (Or.inl rfl) (by decide) (by decide))) (by exact w_or1 (by exact t_cmp (op_neA (hu64 hr)) ops_ne rfl (by exact d_callC (ok_named_number T) hr (by decide) rfl T.g_named_number tk (by exact c_val (by exact de_var (i := 5) rfl (Or.inl rfl) (by decide) (by decide)) c_nil rfl) rfl (by decide) rfl rfl) (by exact dr_var (i := 3) rfl (Or.inl rfl) (by decide) (by decide)))))) (by exact ss_one (by exact s_ret de_bl)) ss_nil) (by exact ss_cons (by exact s_if (by exact t_cmp (op_leG (hu64 hr)) ops_ordG rfl (by exact DF.e (by exact d_callCF (ok_law_key T) hr (by decide) rfl T.g_law_key tk (by exact c_val (by exact d_callC (ok_term_name T) hr (by decide) rfl T.g_term_name tk (by exact c_val (by exact d_binV op_addA ops_add (i := 3) rfl (Or.inl rfl) (by decide) (by decide) (by exact DE.r de_int)) c_nil rfl) rfl (by decide) rfl rfl) c_nil rfl) rfl (by decide) rfl rfl)) (by exact DE.r (by exact DF.e (by exact d_callCF (ok_law_key T) hr (by decide) rfl T.g_law_key tk (by exact c_val (by exact de_var (i := 5) rfl (Or.inl rfl) (by decide) (by decide)) c_nil rfl) rfl (by decide) rfl rfl)))) (by exact ss_one (by exact s_ret de_bl)) ss_nil) (by exact ss_one (by exact s_if (by exact DW.t (by exact w_or (by exact t_cmp (op_neA (hu64 hr)) ops_ne rfl (by exact d_callC (ok_law_refusal T) hr (by decide) rfl T.g_law_refusal tk (by exact c_val (by exact d_bin op_addA ops_add de_str (by exact dr_var (i := 5) rfl (Or.inl rfl) (by decide) (by decide))) (by exact c_val de_non c_nil rfl) rfl) rfl (by decide) rfl rfl) (by exact DE.r de_str)) (by exact w_or (by exact t_cmp (op_neA (hu64 hr)) ops_ne rfl (by exact d_callC (ok_law_refusal T) hr (by decide) rfl T.g_law_refusal tk (by exact c_val (by exact d_slS (by exact de_var (i := 5) rfl (Or.inl rfl) (by decide) (by decide)) o_none (by exact o_some (by exact d_neg de_int))) (by exact c_val de_non c_nil rfl) rfl) rfl (by decide) rfl rfl) (by exact DE.r de_str)) (by exact w_or1 (by exact t_cmp (op_neA (hu64 hr)) ops_ne rfl (by exact d_callC (ok_law_refusal T) hr (by decide) rfl T.g_law_refusal tk (by exact c_val (by exact d_bin op_addA ops_add (by exact d_binV op_addA ops_add (i := 5) rfl (Or.inl rfl) (by decide) (by decide) (by exact DE.r de_str)) (by exact DE.r de_str)) (by exact c_val de_non c_nil rfl) rfl) rfl (by decide) rfl rfl) (by exact DE.r de_str)))))) (by exact ss_one (by exact s_ret de_bl)) ss_nil))))))))) (by exact ss_one (by exact s_ret (by exact d_and (by exact d_cmp (op_eqA (hu64 hr)) ops_eq rfl (by exact d_callC (ok_law_refusal T) hr (by decide) rfl T.g_law_refusal tk (by exact c_val de_non (by exact c_val (by exact d_ix (fun _ _ => rfl) (by exact DF.e (by exact f_lst (by exact a_cons (by exact d_neg de_int) (by exact a_cons de_bl (by exact a_cons de_str (by exact a_cons de_non a_nil)))))) (by exact DE.r (by exact d_callC (ok_law_take T) hr (by decide) rfl T.g_law_take tk (by exact c_own (i := 1) rfl (Or.inl rfl) (by decide) (by decide) (by exact c_val de_int c_nil rfl) rfl) rfl (by decide) rfl rfl))) c_nil rfl) rfl) rfl (by decide) rfl rfl) (by exact DE.r de_str)) (by exact d_one (by exact d_cmp (op_eqA (hu64 hr)) ops_eq rfl (by exact d_callC (ok_law_refusal T) hr (by decide) rfl T.g_law_refusal tk (by exact c_val (by exact d_ix (fun _ _ => rfl) (by exact DF.e (by exact f_lst (by exact a_cons de_str (by exact a_cons de_str (by exact a_cons de_int (by exact a_cons (by exact d_tup (by exact a_cons de_str a_nil)) a_nil)))))) (by exact DE.r (by exact d_callC (ok_law_take T) hr (by decide) rfl T.g_law_take tk (by exact c_own (i := 1) rfl (Or.inl rfl) (by decide) (by decide) (by exact c_val de_int c_nil rfl) rfl) rfl (by decide) rfl rfl))) (by exact c_val de_non c_nil rfl) rfl) rfl (by decide) rfl rfl) (by exact DE.r de_str))))))))
end
theorem all_mk {P : Program} {w : World} {K : PySem.W.Frag} {h : Heap} {mg : Str → Option Value} {fa f_term_name f_named_number f_law_deck f_law_take f_law_name_of f_law_refusal f_law_key f_law C_InvalidBook I_InvalidBook cda_InvalidBook cc_InvalidBook t_SYLLABLES : Addr} {od_term_name an_term_name od_named_number an_named_number od_law_deck an_law_deck od_law_take an_law_take od_law_name_of an_law_name_of od_law_refusal an_law_refusal od_law_key an_law_key od_law an_law : Option Addr} {sl_term_name sl_named_number sl_law_deck sl_law_take sl_law_name_of sl_law_refusal sl_law_key sl_law : Array (Option Value)} {oc_term_name kV_term_name dc_term_name pm_term_name cd_term_name ct_term_name oc_named_number kV_named_number dc_named_number pm_named_number cd_named_number ct_named_number oc_law_deck kV_law_deck dc_law_deck pm_law_deck cd_law_deck ct_law_deck oc_law_take kV_law_take dc_law_take pm_law_take cd_law_take ct_law_take oc_law_name_of kV_law_name_of dc_law_name_of pm_law_name_of cd_law_name_of ct_law_name_of oc_law_refusal kV_law_refusal dc_law_refusal pm_law_refusal cd_law_refusal ct_law_refusal oc_law_key kV_law_key dc_law_key pm_law_key cd_law_key ct_law_key oc_law kV_law dc_law pm_law cd_law ct_law : Value} {nm_InvalidBook q_InvalidBook qual_InvalidBook file_InvalidBook : Str} {N_InvalidBook : Addr} {bs_InvalidBook bm_InvalidBook sub_InvalidBook : List Value} {sn_InvalidBook : List Str} {ab_InvalidBook : Bool} {col_InvalidBook : Option Bool} {dd_InvalidBook od_InvalidBook an_InvalidBook cdd_InvalidBook cld_InvalidBook : Option Addr} {k0_InvalidBook k1_InvalidBook k2_InvalidBook k3_InvalidBook k5_InvalidBook : Option Value} {oc_InvalidBook doc_InvalidBook pm_InvalidBook ct_InvalidBook ccl_InvalidBook cl_InvalidBook : Value} {osl_InvalidBook ccs_InvalidBook csl_InvalidBook : Array (Option Value)} {vs_InvalidBook : Array Value} {tf_InvalidBook : Tok} {its_SYLLABLES : Array Value} {n_SYLLABLES : Nat} {slt_SYLLABLES : Array (Option Value)} (X : K.In h) (G : h.Ns mainGlobals mg) (hfa : mg "law" = some (.ref fa))
    (z_abs : PySem.W.nsIn K mainGlobals "abs" = some none)
    (z_bool : PySem.W.nsIn K mainGlobals "bool" = some none)
    (z_int : PySem.W.nsIn K mainGlobals "int" = some none)
    (z_isinstance : PySem.W.nsIn K mainGlobals "isinstance" = some none)
    (z_len : PySem.W.nsIn K mainGlobals "len" = some none)
    (z_range : PySem.W.nsIn K mainGlobals "range" = some none)
    (z_str : PySem.W.nsIn K mainGlobals "str" = some none)
    (a_term_name : PySem.W.nsIn K mainGlobals "term_name" = some (some (.ref f_term_name)))
    (l_term_name : K.lookup f_term_name = some ⟨oc_term_name, od_term_name, .func (PySem.W.fnOf "term_name" "term_name" (defArgs s_term_name) (defBody s_term_name) (defScope s_term_name) .none kV_term_name dc_term_name pm_term_name an_term_name cd_term_name ct_term_name), sl_term_name⟩)
    (c_term_name : PySem.W.codeIn K cd_term_name "term_name" = true)
    (k_term_name : PySem.W.keepIn K (.ref f_term_name) = true)
    (a_named_number : PySem.W.nsIn K mainGlobals "named_number" = some (some (.ref f_named_number)))
    (l_named_number : K.lookup f_named_number = some ⟨oc_named_number, od_named_number, .func (PySem.W.fnOf "named_number" "named_number" (defArgs s_named_number) (defBody s_named_number) (defScope s_named_number) .none kV_named_number dc_named_number pm_named_number an_named_number cd_named_number ct_named_number), sl_named_number⟩)
    (c_named_number : PySem.W.codeIn K cd_named_number "named_number" = true)
    (k_named_number : PySem.W.keepIn K (.ref f_named_number) = true)
    (a_law_deck : PySem.W.nsIn K mainGlobals "_law_deck" = some (some (.ref f_law_deck)))
    (l_law_deck : K.lookup f_law_deck = some ⟨oc_law_deck, od_law_deck, .func (PySem.W.fnOf "_law_deck" "_law_deck" (defArgs s_law_deck) (defBody s_law_deck) (defScope s_law_deck) .none kV_law_deck dc_law_deck pm_law_deck an_law_deck cd_law_deck ct_law_deck), sl_law_deck⟩)
    (c_law_deck : PySem.W.codeIn K cd_law_deck "_law_deck" = true)
    (k_law_deck : PySem.W.keepIn K (.ref f_law_deck) = true)
    (a_law_take : PySem.W.nsIn K mainGlobals "_law_take" = some (some (.ref f_law_take)))
    (l_law_take : K.lookup f_law_take = some ⟨oc_law_take, od_law_take, .func (PySem.W.fnOf "_law_take" "_law_take" (defArgs s_law_take) (defBody s_law_take) (defScope s_law_take) .none kV_law_take dc_law_take pm_law_take an_law_take cd_law_take ct_law_take), sl_law_take⟩)
    (c_law_take : PySem.W.codeIn K cd_law_take "_law_take" = true)
    (k_law_take : PySem.W.keepIn K (.ref f_law_take) = true)
    (a_law_name_of : PySem.W.nsIn K mainGlobals "_law_name_of" = some (some (.ref f_law_name_of)))
    (l_law_name_of : K.lookup f_law_name_of = some ⟨oc_law_name_of, od_law_name_of, .func (PySem.W.fnOf "_law_name_of" "_law_name_of" (defArgs s_law_name_of) (defBody s_law_name_of) (defScope s_law_name_of) .none kV_law_name_of dc_law_name_of pm_law_name_of an_law_name_of cd_law_name_of ct_law_name_of), sl_law_name_of⟩)
    (c_law_name_of : PySem.W.codeIn K cd_law_name_of "_law_name_of" = true)
    (k_law_name_of : PySem.W.keepIn K (.ref f_law_name_of) = true)
    (a_law_refusal : PySem.W.nsIn K mainGlobals "_law_refusal" = some (some (.ref f_law_refusal)))
    (l_law_refusal : K.lookup f_law_refusal = some ⟨oc_law_refusal, od_law_refusal, .func (PySem.W.fnOf "_law_refusal" "_law_refusal" (defArgs s_law_refusal) (defBody s_law_refusal) (defScope s_law_refusal) .none kV_law_refusal dc_law_refusal pm_law_refusal an_law_refusal cd_law_refusal ct_law_refusal), sl_law_refusal⟩)
    (c_law_refusal : PySem.W.codeIn K cd_law_refusal "_law_refusal" = true)
    (k_law_refusal : PySem.W.keepIn K (.ref f_law_refusal) = true)
    (a_law_key : PySem.W.nsIn K mainGlobals "_law_key" = some (some (.ref f_law_key)))
    (l_law_key : K.lookup f_law_key = some ⟨oc_law_key, od_law_key, .func (PySem.W.fnOf "_law_key" "_law_key" (defArgs s_law_key) (defBody s_law_key) (defScope s_law_key) .none kV_law_key dc_law_key pm_law_key an_law_key cd_law_key ct_law_key), sl_law_key⟩)
    (c_law_key : PySem.W.codeIn K cd_law_key "_law_key" = true)
    (k_law_key : PySem.W.keepIn K (.ref f_law_key) = true)
    (a_law : PySem.W.nsIn K mainGlobals "law" = some (some (.ref f_law)))
    (l_law : K.lookup f_law = some ⟨oc_law, od_law, .func (PySem.W.fnOf "law" "law" (defArgs s_law) (defBody s_law) (defScope s_law) .none kV_law dc_law pm_law an_law cd_law ct_law), sl_law⟩)
    (c_law : PySem.W.codeIn K cd_law "law" = true)
    (k_law : PySem.W.keepIn K (.ref f_law) = true)
    (gS : PySem.W.nsIn K mainGlobals "super" = some none)
    (opq : PySem.W.nsIn K PySem.cStatics "thirdparty.any" = some none)
    (gC_InvalidBook : PySem.W.nsIn K mainGlobals "InvalidBook" = some (some (.ref C_InvalidBook)))
    (xL_InvalidBook : K.lookup C_InvalidBook = some (excClassObj nm_InvalidBook q_InvalidBook C_InvalidBook N_InvalidBook bs_InvalidBook bm_InvalidBook true sn_InvalidBook sub_InvalidBook ab_InvalidBook col_InvalidBook dd_InvalidBook k0_InvalidBook k1_InvalidBook k2_InvalidBook k3_InvalidBook k5_InvalidBook "ValueError.__new__"))
    (bm_ok_InvalidBook : PySem.HandSPX.refsVE bm_InvalidBook = true)
    (xi_InvalidBook : PySem.W.excInitIn K C_InvalidBook PySem.HandSPX.veTail "ValueError.__new__" = true)
    (sa_InvalidBook : PySem.W.findIn K (.ref C_InvalidBook) "__setattr__" = some (some (.builtin "object.__setattr__")))
    (ga_InvalidBook : PySem.W.findIn K (.ref C_InvalidBook) "__getattribute__" = some (some (.builtin "BaseException.__getattribute__")))
    (gg_InvalidBook : PySem.W.findIn K (.ref C_InvalidBook) "__getattr__" = some none)
    (nb_InvalidBook : PySem.W.findIn K (.ref C_InvalidBook) "what" = some none)
    (iC_InvalidBook : PySem.W.findIn K (.ref C_InvalidBook) "__init__" = some (some (.ref I_InvalidBook)))
    (tI_InvalidBook : PySem.W.typeIn K (.ref I_InvalidBook) = some (.type "function"))
    (kC_InvalidBook : PySem.W.keepIn K (.ref C_InvalidBook) = true)
    (eC_InvalidBook : PySem.W.subIn K (.ref C_InvalidBook) (.type "BaseException") = some true)
    (eV_InvalidBook : PySem.W.subIn K (.ref C_InvalidBook) (.type "ValueError") = some true)
    (sf_InvalidBook : PySem.W.mroIn K C_InvalidBook (.ref C_InvalidBook) = some true)
    (tC_InvalidBook : PySem.W.typeIn K (.ref C_InvalidBook) = some (.type "type"))
    (hC_InvalidBook : PySem.W.hasDictIn K C_InvalidBook = true)
    (su_InvalidBook : PySem.W.ks_superIn K C_InvalidBook C_InvalidBook "__init__" = some (some (.builtin "ValueError.__init__")))
    (lI_InvalidBook : K.lookup I_InvalidBook = some ⟨oc_InvalidBook, od_InvalidBook, .func (PySem.W.ksFn "__init__" qual_InvalidBook (defArgs (initOf (top 2))) (defBody (initOf (top 2))) (defScope (initOf (top 2))) .none .none doc_InvalidBook pm_InvalidBook an_InvalidBook (.ref cda_InvalidBook) ct_InvalidBook cc_InvalidBook), osl_InvalidBook⟩)
    (cI_InvalidBook : PySem.W.codeIn K (.ref cda_InvalidBook) qual_InvalidBook = true)
    (lc_InvalidBook : K.lookup cda_InvalidBook = some ⟨ccl_InvalidBook, cdd_InvalidBook, .fields vs_InvalidBook, ccs_InvalidBook⟩)
    (v2_InvalidBook : vs_InvalidBook[2]? = some (.str file_InvalidBook tf_InvalidBook))
    (fl_InvalidBook : ((P.main.file : Str) == file_InvalidBook) = true)
    (ll_InvalidBook : K.lookup cc_InvalidBook = some ⟨cl_InvalidBook, cld_InvalidBook, .cell (some (.ref C_InvalidBook)), csl_InvalidBook⟩)
    (is_InvalidBook : PySem.W.isClsIn K C_InvalidBook = true)
    (ss_InvalidBook : PySem.W.subIn K (.ref C_InvalidBook) (.ref C_InvalidBook) = some true)
    (tp : (P.main.scope.names.lookup ("super" : Str)).isSome = false)
    (at_SYLLABLES : PySem.W.nsIn K mainGlobals "SYLLABLES" = some (some (.ref t_SYLLABLES)))
    (lt_SYLLABLES : K.lookup t_SYLLABLES = some ⟨.type "tuple", none, .seq its_SYLLABLES n_SYLLABLES, slt_SYLLABLES⟩)
    (ys_SYLLABLES : strsB its_SYLLABLES.toList y_SYLLABLES = true)
    (sz_SYLLABLES : decide (its_SYLLABLES.size ≤ 16777216) = true)
    (hm : ∀ ns : List Int, ns.length ≤ 63 → ∃ cs, F_law [.va (.lsx (ns.map D.int))] = .ok (.bl true) cs) :
    ∃ fd : FuncData, (∀ (s : Shared) (v : Value), BindsTo s fd ⟨[v], []⟩ [("script", v)]) ∧ ∀ base : Heap, K.In base → base.Ns mainGlobals mg → FnOk P w K mg base (L2.CX P w) 4 fa fd ["script"] (spTop K) := by
  have e := hfa.symm.trans (PySem.W.mg_of X G a_law)
  cases e
  have T : Tx P K mg ⟨f_term_name, f_named_number, f_law_deck, f_law_take, f_law_name_of, f_law_refusal, f_law_key, fa, 0, C_InvalidBook, 0, I_InvalidBook, t_SYLLABLES⟩ := {
    z_abs := PySem.W.mg_none_of X G z_abs
    z_bool := PySem.W.mg_none_of X G z_bool
    z_int := PySem.W.mg_none_of X G z_int
    z_isinstance := PySem.W.mg_none_of X G z_isinstance
    z_len := PySem.W.mg_none_of X G z_len
    z_range := PySem.W.mg_none_of X G z_range
    z_str := PySem.W.mg_none_of X G z_str
    g_term_name := PySem.W.mg_of X G a_term_name
    d_term_name := ⟨_, fun_mk (st := s_term_name) l_term_name c_term_name k_term_name, (fun_mk (st := s_term_name) l_term_name c_term_name k_term_name).binds (ps := P_term_name) fun _ _ _ _ _ _ us hl => match us, hl with | [_], _ => rfl⟩
    g_named_number := PySem.W.mg_of X G a_named_number
    d_named_number := ⟨_, fun_mk (st := s_named_number) l_named_number c_named_number k_named_number, (fun_mk (st := s_named_number) l_named_number c_named_number k_named_number).binds (ps := P_named_number) fun _ _ _ _ _ _ us hl => match us, hl with | [_], _ => rfl⟩
    g_law_deck := PySem.W.mg_of X G a_law_deck
    d_law_deck := ⟨_, fun_mk (st := s_law_deck) l_law_deck c_law_deck k_law_deck, (fun_mk (st := s_law_deck) l_law_deck c_law_deck k_law_deck).binds (ps := P_law_deck) fun _ _ _ _ _ _ us hl => match us, hl with | [_, _, _], _ => rfl⟩
    g_law_take := PySem.W.mg_of X G a_law_take
    d_law_take := ⟨_, fun_mk (st := s_law_take) l_law_take c_law_take k_law_take, (fun_mk (st := s_law_take) l_law_take c_law_take k_law_take).binds (ps := P_law_take) fun _ _ _ _ _ _ us hl => match us, hl with | [_, _], _ => rfl⟩
    g_law_name_of := PySem.W.mg_of X G a_law_name_of
    d_law_name_of := ⟨_, fun_mk (st := s_law_name_of) l_law_name_of c_law_name_of k_law_name_of, (fun_mk (st := s_law_name_of) l_law_name_of c_law_name_of k_law_name_of).binds (ps := P_law_name_of) fun _ _ _ _ _ _ us hl => match us, hl with | [_], _ => rfl⟩
    g_law_refusal := PySem.W.mg_of X G a_law_refusal
    d_law_refusal := ⟨_, fun_mk (st := s_law_refusal) l_law_refusal c_law_refusal k_law_refusal, (fun_mk (st := s_law_refusal) l_law_refusal c_law_refusal k_law_refusal).binds (ps := P_law_refusal) fun _ _ _ _ _ _ us hl => match us, hl with | [_, _], _ => rfl⟩
    g_law_key := PySem.W.mg_of X G a_law_key
    d_law_key := ⟨_, fun_mk (st := s_law_key) l_law_key c_law_key k_law_key, (fun_mk (st := s_law_key) l_law_key c_law_key k_law_key).binds (ps := P_law_key) fun _ _ _ _ _ _ us hl => match us, hl with | [_], _ => rfl⟩
    g_law := PySem.W.mg_of X G a_law
    d_law := ⟨_, fun_mk (st := s_law) l_law c_law k_law, (fun_mk (st := s_law) l_law c_law k_law).binds (ps := P_law) fun _ _ _ _ _ _ us hl => match us, hl with | [_], _ => rfl⟩
    x_InvalidBook := ⟨PySem.W.mg_of X G gC_InvalidBook, ⟨_, _, _, _, _, _, _, _, _, _, _, _, _, _, _, xL_InvalidBook, bm_ok_InvalidBook⟩, xi_InvalidBook, sa_InvalidBook, ga_InvalidBook, gg_InvalidBook, nb_InvalidBook, iC_InvalidBook, tI_InvalidBook, kC_InvalidBook, eC_InvalidBook, eV_InvalidBook, sf_InvalidBook, tC_InvalidBook, hC_InvalidBook, su_InvalidBook, PySem.W.mg_none_of X G gS, opq, tp,
      ⟨_, _, _, _, _, _, _, _, _, _, ⟨_, _, _, _⟩, ⟨_, _, _, _⟩, ⟨_, _, _, _⟩, ⟨_, _, _, _⟩, ⟨_, _, _, _⟩, ⟨_, _, _, _⟩, ⟨_, _, _, _⟩, ⟨_, _, _, _⟩, ⟨_, _, _, _⟩, ⟨_, _, _, _⟩, ⟨_, _, _, _⟩, ⟨_, _, _, _⟩, by decide, lI_InvalidBook, cI_InvalidBook, ⟨_, _, _, _, _, _, lc_InvalidBook, v2_InvalidBook, fl_InvalidBook⟩, _, _, _, ll_InvalidBook⟩⟩
    e_InvalidBook := exm_of eC_InvalidBook eC_InvalidBook is_InvalidBook tC_InvalidBook ss_InvalidBook
    t_SYLLABLES := tupS_mk (PySem.W.mg_of X G at_SYLLABLES) lt_SYLLABLES ys_SYLLABLES sz_SYLLABLES
  }
  exact ⟨PySem.W.fnOf "law" "law" (defArgs s_law) (defBody s_law) (defScope s_law) .none kV_law dc_law pm_law an_law cd_law ct_law, fun s v => .of_eq rfl, fun base _ _ => (fn_law T (fun_mk (st := s_law) l_law c_law k_law)).imp fun vs H Q E h => spTop_of hm vs H Q E h⟩
end K01
end KL
namespace KL
namespace K01
open PySem L2
/-! ### the figures of a number, its name -/
def digs (n : Nat) : List Nat := if h : n < 25 then [n] else digs (n / 25) ++ [n % 25]
termination_by n
decreasing_by omega
theorem digs_lt {n : Nat} (h : n < 25) : digs n = [n] := by rw [digs, dif_pos h]
theorem digs_ge {n : Nat} (h : ¬ n < 25) : digs n = digs (n / 25) ++ [n % 25] := by rw [digs, dif_neg h]
/-- the signs of a syllable -/
def syc (d : Nat) : List Nat := [[107, 109, 110, 112, 116].getD (d / 5) 0, [97, 101, 105, 111, 117].getD (d % 5) 0]
def sy (d : Nat) : Str := S (syc d)
theorem syll : y_SYLLABLES = (List.range 25).map sy := by decide +kernel
theorem syc_len (d : Nat) : (syc d).length = 2 := rfl
def cat (ds : List Nat) : List Nat := ds.flatMap syc
theorem cat_len (ds : List Nat) : (cat ds).length = 2 * ds.length := by
  induction ds with
  | nil => rfl
  | cons d ds ih => show (syc d ++ cat ds).length = _; rw [List.length_append, ih, syc_len, List.length_cons]; omega
theorem cat_app (a b : List Nat) : cat (a ++ b) = cat a ++ cat b := by simp [cat]
theorem cat_one (d : Nat) : cat [d] = syc d := by simp [cat]
def nm (n : Nat) : Str := S (cat (digs n))
theorem digs_small (n : Nat) : ∀ d ∈ digs n, d < 25 := by
  induction n using Nat.strongRecOn with
  | ind n ih =>
    by_cases h : n < 25
    · rw [digs_lt h]; intro d hd; rw [List.mem_singleton] at hd; omega
    · rw [digs_ge h]
      intro d hd
      rcases List.mem_append.mp hd with hd | hd
      · exact ih (n / 25) (by omega) d hd
      · rw [List.mem_singleton] at hd; omega
theorem digs_len (k : Nat) : ∀ n, n < 25 ^ (k + 1) → (digs n).length ≤ k + 1 := by
  induction k with
  | zero => intro n h; rw [digs_lt (by simpa using h)]; simp
  | succ k ih =>
    intro n h
    by_cases h2 : n < 25
    · rw [digs_lt h2]; simp
    · rw [digs_ge h2, List.length_append]
      have h3 := ih (n / 25) (by rw [Nat.pow_succ] at h; omega)
      simp only [List.length_singleton]; omega
theorem digs_pos (n : Nat) : 0 < (digs n).length := by
  by_cases h : n < 25
  · rw [digs_lt h]; simp
  · rw [digs_ge h]; simp
/-! ### words -/
theorem divN {m : Nat} : divD (.int (m : Int)) (.int 25) = some (.int ((m / 25 : Nat) : Int)) := by rw [divD_int (by omega), Int.natCast_ediv]; rfl
theorem modN {m : Nat} : modD (.int (m : Int)) (.int 25) = some (.int ((m % 25 : Nat) : Int)) := by rw [modD_int (by omega), Int.natCast_emod]; rfl
theorem ix_nat {xs : List D} {i : Nat} (h : i < xs.length) : atI xs (i : Int) = some xs[i] := by
  unfold atI ixN
  rw [if_pos (by omega), if_pos (by omega)]
  simp [h]
theorem ix_syll {i : Nat} (h : i < 25) : ixD g_SYLLABLES (.int (i : Int)) = some (.str (sy i)) := by
  show atI (y_SYLLABLES.map D.str) (i : Int) = _
  rw [syll, ix_nat (by simpa using h)]
  simp
theorem addS {a b : List Nat} (h : a.length + b.length ≤ 16777216) : addD (.str (S a)) (.str (S b)) = some (.str (S (a ++ b))) := by
  show (if (S a).length + (S b).length ≤ 16777216 then some (D.str (S a ++ S b)) else none) = _
  rw [S_len, S_len, if_pos h, S_app]
/-- what stands ahead of the last figure -/
def front (m : Nat) : List Nat := if m < 25 then [] else digs (m / 25)
theorem front_digs (m : Nat) : front m ++ [m % 25] = digs m := by
  unfold front
  by_cases h : m < 25
  · rw [if_pos h, digs_lt h, Nat.mod_eq_of_lt h]; rfl
  · rw [if_neg h, digs_ge h]
theorem front_step {m : Nat} (h : ¬ m < 25) : front m = front (m / 25) ++ [m / 25 % 25] := by
  rw [front_digs]; unfold front; rw [if_neg h]
theorem tn_loop : ∀ (f m : Nat) (ds : List Nat), m < 25 ^ (f + 1) → ds.length + f ≤ 1000 →
    ∃ m' : Nat, whileM term_name_c1 term_name_b2 (f + 1) [.va (.int (m : Int)), .va (.str (S (cat ds)))] = .nx [.va (.int (m' : Int)), .va (.str (S (cat (front m ++ ds))))]
  | f, m, ds, hm, hf => by
    by_cases h : m < 25
    · refine ⟨m, ?_⟩
      have hc : ¬ ((25 : Int) ≤ (m : Int)) := by omega
      unfold whileM front
      rw [if_pos h]
      simp [term_name_c1, opV, rdR, hc]
    · cases f with
      | zero => exact absurd (by simpa using hm) h
      | succ f =>
        obtain ⟨m', ih⟩ := tn_loop f (m / 25) (m / 25 % 25 :: ds) (by rw [Nat.pow_succ] at hm; omega) (by simp only [List.length_cons]; omega)
        refine ⟨m', ?_⟩
        have hc : (25 : Int) ≤ (m : Int) := by omega
        have hb : term_name_b2 [.va (.int (m : Int)), .va (.str (S (cat ds)))] = .nx [.va (.int ((m / 25 : Nat) : Int)), .va (.str (S (cat (m / 25 % 25 :: ds))))] := by
          have hix := ix_syll (i := m / 25 % 25) (by omega)
          have hadd : addD (.str (sy (m / 25 % 25))) (.str (S (cat ds))) = some (.str (S (cat (m / 25 % 25 :: ds)))) := addS (by rw [cat_len, syc_len]; omega)
          unfold term_name_b2
          simp only [sq_, setS_, opV, rdR, List.getElem?_cons_zero, List.getElem?_cons_succ, Option.bind_some, rd_va, bind_ok_, opt_some_, divN, s_ok_, setM, canSet_, canC_va, if_true, List.set_cons_zero, seq_nx, opM_, modN, hix, varR_, hadd, List.set_cons_succ]
        rw [whileM]
        have hcc : term_name_c1 [.va (.int (m : Int)), .va (.str (S (cat ds)))] = .ok true [.va (.int (m : Int)), .va (.str (S (cat ds)))] := by
          simp [term_name_c1, opV, rdR, hc]
        rw [hcc, s_ok_, if_pos rfl, hb, loop_nx, ih, front_step h, List.append_assoc]; rfl
theorem kit_ii : kitB "int" "int" = some true := by decide +kernel
theorem kit_ib : kitB "int" "bool" = some false := by decide +kernel
theorem kit_bi : kitB "bool" "int" = some true := by decide +kernel
theorem kit_bb : kitB "bool" "bool" = some true := by decide +kernel
theorem kit_si : kitB "str" "int" = some false := by decide +kernel
theorem kit_ni : kitB "NoneType" "int" = some false := by decide +kernel
theorem kit_ss : kitB "str" "str" = some true := by decide +kernel
theorem kit_is : kitB "int" "str" = some false := by decide +kernel
theorem kit_ts : kitB "tuple" "str" = some false := by decide +kernel
abbrev xB (w : Str) : Exc := .mk "InvalidBook" [("what", .str w)]
theorem tn_ok {n : Nat} (hn : n < 25 ^ 250) : F_term_name [.va (.int (n : Int))] = .ok (.str (nm n)) [.no] := by
  unfold F_term_name
  rw [bodyF_]
  obtain ⟨m', h⟩ := tn_loop 399 n [n % 25] (Nat.lt_of_lt_of_le hn (Nat.pow_le_pow_right (by omega) (by omega))) (by simp)
  rw [cat_one, front_digs] at h
  have hix := ix_syll (i := n % 25) (by omega)
  have hneg : ¬ ((n : Int) < 0) := by omega
  unfold m_term_name
  simp [-Int.natCast_emod, -Int.natCast_ediv, rdR, opV, isiM, isiB, tyD, varM, truD, hneg, modN, hix, setM, canSet_, kit_ii, kit_ib, sy, h, kpD_map]
  rfl
theorem tn_neg : F_term_name [.va (.int (-1))] = .ex (xB "number") [.no] := by
  unfold F_term_name m_term_name
  rw [bodyF_]
  simp [rdR, opV, isiM, isiB, tyD, varM, truD, kit_ii, kit_ib, kpD_map]
theorem tn_bool : F_term_name [.va (.bl true)] = .ex (xB "number") [.no] := by
  unfold F_term_name m_term_name
  rw [bodyF_]
  simp [rdR, opV, isiM, isiB, tyD, varM, truD, kit_bi, kit_bb, kpD_map]
theorem tn_str : F_term_name [.va (.str "ka")] = .ex (xB "number") [.no] := by
  unfold F_term_name m_term_name
  rw [bodyF_]
  simp [rdR, opV, isiM, isiB, tyD, varM, truD, kit_si, kpD_map]
theorem tn_non : F_term_name [.va .non] = .ex (xB "number") [.no] := by
  unfold F_term_name m_term_name
  rw [bodyF_]
  simp [rdR, opV, isiM, isiB, tyD, varM, truD, kit_ni, kpD_map]
/-! ### the law's own name -/
theorem ix_own {i : Nat} (h : i < 25) : ixD (.lst (y_SYLLABLES.map D.str)) (.int (i : Int)) = some (.str (sy i)) := by
  show atI (y_SYLLABLES.map D.str) (i : Int) = _
  rw [syll, ix_nat (by simpa using h)]
  simp
theorem ln_loop : ∀ (f m : Nat) (ds : List Nat), m < 25 ^ (f + 1) → ds.length + f ≤ 1000 →
    ∃ m' : Nat, whileM law_name_of_c1 law_name_of_b2 (f + 1) [.va (.int (m : Int)), .ow (y_SYLLABLES.map D.str), .va (.str (S (cat ds)))] = .nx [.va (.int (m' : Int)), .ow (y_SYLLABLES.map D.str), .va (.str (S (cat (front m ++ ds))))]
  | f, m, ds, hm, hf => by
    by_cases h : m < 25
    · refine ⟨m, ?_⟩
      have hc : ¬ ((25 : Int) ≤ (m : Int)) := by omega
      unfold whileM front
      rw [if_pos h]
      simp [law_name_of_c1, opV, rdR, hc]
    · cases f with
      | zero => exact absurd (by simpa using hm) h
      | succ f =>
        obtain ⟨m', ih⟩ := ln_loop f (m / 25) (m / 25 % 25 :: ds) (by rw [Nat.pow_succ] at hm; omega) (by simp only [List.length_cons]; omega)
        refine ⟨m', ?_⟩
        have hc : (25 : Int) ≤ (m : Int) := by omega
        have hb : law_name_of_b2 [.va (.int (m : Int)), .ow (y_SYLLABLES.map D.str), .va (.str (S (cat ds)))] = .nx [.va (.int ((m / 25 : Nat) : Int)), .ow (y_SYLLABLES.map D.str), .va (.str (S (cat (m / 25 % 25 :: ds))))] := by
          have hix := ix_own (i := m / 25 % 25) (by omega)
          have hadd : addD (.str (sy (m / 25 % 25))) (.str (S (cat ds))) = some (.str (S (cat (m / 25 % 25 :: ds)))) := addS (by rw [cat_len, syc_len]; omega)
          unfold law_name_of_b2
          simp only [sq_, setS_, opV, rdR, List.getElem?_cons_zero, List.getElem?_cons_succ, Option.bind_some, rd_va, rd_ow, bind_ok_, opt_some_, divN, s_ok_, setM, canSet_, canC_va, if_true, List.set_cons_zero, seq_nx, opM_, modN, hix, varR_, hadd, List.set_cons_succ, call1_, intD1_int]
        rw [whileM]
        have hcc : law_name_of_c1 [.va (.int (m : Int)), .ow (y_SYLLABLES.map D.str), .va (.str (S (cat ds)))] = .ok true [.va (.int (m : Int)), .ow (y_SYLLABLES.map D.str), .va (.str (S (cat ds)))] := by
          simp [law_name_of_c1, opV, rdR, hc]
        rw [hcc, s_ok_, if_pos rfl, hb, loop_nx, ih, front_step h, List.append_assoc]; rfl
def lits : List D → DEnv → Res (List D)
  | [] => cst []
  | d :: ds => consM (cst d) (lits ds)
theorem lits_ok : ∀ {ds : List D} {Δ : DEnv}, lits ds Δ = .ok ds Δ
  | [], _ => rfl
  | d :: ds, Δ => by show (lits ds Δ).map (d :: ·) = _; rw [lits_ok]; rfl
theorem name_eq : m_law_name_of = sq (setOS 1 (lstM (lits (y_SYLLABLES.map D.str)))) (sq (setS 2 (opV ixD 1 (opM modD (call1 intD1 (varR 0)) (cst (D.int 25))))) (sq (whileM law_name_of_c1 law_name_of_b2 400) (retS (varM 2)))) := rfl
theorem syl_len : y_SYLLABLES.length = 25 := rfl
theorem ln_ok {n : Nat} (hn : n < 25 ^ 250) : F_law_name_of [.va (.int (n : Int))] = .ok (.str (nm n)) [.no] := by
  unfold F_law_name_of
  rw [bodyF_]
  obtain ⟨m', h⟩ := ln_loop 399 n [n % 25] (Nat.lt_of_lt_of_le hn (Nat.pow_le_pow_right (by omega) (by omega))) (by simp)
  rw [cat_one, front_digs] at h
  have hix := ix_own (i := n % 25) (by omega)
  rw [name_eq]
  simp [-Int.natCast_emod, -Int.natCast_ediv, lstM, lits_ok, gd, rdR, opV, modN, hix, setM, setO, canSet_, sy, h, kpD_map, varM, syl_len]
  rfl
/-! ### the number that a text names -/
def val (ds : List Nat) : Nat := ds.foldl (fun n d => n * 25 + d) 0
theorem val_app (ds : List Nat) (d : Nat) : val (ds ++ [d]) = val ds * 25 + d := by unfold val; rw [List.foldl_append]; rfl
theorem val_digs (n : Nat) : val (digs n) = n := by
  induction n using Nat.strongRecOn with
  | ind n ih =>
    by_cases h : n < 25
    · rw [digs_lt h]; simp [val]
    · rw [digs_ge h, val_app, ih (n / 25) (by omega)]; omega
theorem val_lt : ∀ (k : Nat) (ds : List Nat), ds.length = k → (∀ d ∈ ds, d < 25) → val ds < 25 ^ k := by
  intro k
  induction k with
  | zero => intro ds h _; rw [List.length_eq_zero_iff.mp h]; decide
  | succ k ih =>
    intro ds h hd
    rcases List.eq_nil_or_concat ds with rfl | ⟨es, d, rfl⟩
    · simp at h
    · have h1 := ih es (by simpa using h) fun x hx => hd x (by simp [hx])
      have h2 := hd d (by simp)
      rw [List.concat_eq_append, val_app, Nat.pow_succ]; omega
theorem cat_cut : ∀ (ds ex : List Nat) (i : Nat) (h : i < ds.length), ((cat ds ++ ex).drop (2 * i)).take 2 = syc ds[i]
  | d :: ds, ex, 0, _ => rfl
  | d :: ds, ex, i + 1, h => by
    have ih := cat_cut ds ex i (by simpa using h)
    have e : cat (d :: ds) ++ ex = syc d ++ (cat ds ++ ex) := by show (syc d ++ cat ds) ++ ex = _; rw [List.append_assoc]
    rw [e, show 2 * (i + 1) = 2 + 2 * i by omega, ← List.drop_drop]
    exact ih
theorem cut_nat {l : List Nat} {a b : Nat} (h : a ≤ b) (hb : b ≤ l.length) : cutS (S l) (some (a : Int)) (some (b : Int)) = S ((l.drop a).take (b - a)) := by
  unfold cutS
  rw [HT.sIx_nat, HT.sIx_nat, S_len, Nat.min_eq_left hb, Nat.min_eq_left (Nat.le_trans h hb)]
  simp [S]
theorem sl_cat {ds ex : List Nat} {i : Nat} (h : i < ds.length) (hl : ds.length ≤ 1000) (hx : ex.length ≤ 1000) : slSD (.str (S (cat ds ++ ex))) (some ((2 * i : Nat) : Int)) (some ((2 * i + 2 : Nat) : Int)) = some (.str (sy ds[i])) := by
  have hc := cat_len ds
  show (if (S (cat ds ++ ex)).length ≤ 16777216 then some (D.str (cutS (S (cat ds ++ ex)) _ _)) else none) = _
  rw [S_len, List.length_append, if_pos (by omega), cut_nat (by omega) (by rw [List.length_append]; omega), show 2 * i + 2 - 2 * i = 2 by omega, cat_cut ds ex i h]
  rfl
theorem nin_syl {d : Nat} (h : d < 25) : ninD (.str (sy d)) g_SYLLABLES = some (.bl false) := by
  have hall : ∀ d ∈ List.range 25, inB (.str (sy d)) g_SYLLABLES = some true := by decide +kernel
  unfold ninD
  rw [hall d (List.mem_range.mpr h)]; rfl
theorem nin_ba : ninD (.str (S [98, 97])) g_SYLLABLES = some (.bl true) := by
  have h : inB (.str (S [98, 97])) g_SYLLABLES = some false := by decide +kernel
  unfold ninD
  rw [h]; rfl
theorem idx_syl {d : Nat} (h : d < 25) : y_SYLLABLES.findIdx? (· == sy d) = some d := by
  have hall : ∀ d ∈ List.range 25, y_SYLLABLES.findIdx? (· == sy d) = some d := by decide +kernel
  exact hall d (List.mem_range.mpr h)
theorem small_two {k : Nat} (hk : k ≤ 1000) : Builtin.Range.small 0 (2 * (k : Int)) 2 = true := by
  have hall : ((List.range 1001).all fun k => Builtin.Range.small 0 (2 * (k : Int)) 2) = true := by decide +kernel
  exact List.all_eq_true.mp hall k (List.mem_range.mpr (by omega))
theorem size_two (k : Nat) : Builtin.Range.rangeSize 0 (2 * (k : Int)) 2 = (k : Int) := by
  unfold Builtin.Range.rangeSize
  simp only [show (2 : Int) > 0 by decide, if_true]
  split <;> omega
theorem addN {a b : Nat} : addD (.int (a : Int)) (.int (b : Int)) = some (.int ((a + b : Nat) : Int)) := by rw [addD_int, Int.natCast_add]
theorem mulN {a : Nat} : mulD (.int (a : Int)) (.int 25) = some (.int ((a * 25 : Nat) : Int)) := by rw [mulD_r (by omega), Int.natCast_mul]; rfl
theorem nn_body {ds ex : List Nat} {i v : Nat} (h : i < ds.length) (hd : ∀ d ∈ ds, d < 25) (hl : ds.length ≤ 1000) (hx : ex.length ≤ 1000) :
    named_number_b1 [.va (.str (S (cat ds ++ ex))), .va (.int (v : Int)), .va (.int ((2 * i : Nat) : Int))] = .nx [.va (.str (S (cat ds ++ ex))), .va (.int ((v * 25 + ds[i] : Nat) : Int)), .va (.int ((2 * i : Nat) : Int))] := by
  have h1 := sl_cat (ex := ex) h hl hx
  have h2 := hd ds[i] (List.getElem_mem h)
  have h3 : addD (.int ((2 * i : Nat) : Int)) (.int 2) = some (.int ((2 * i + 2 : Nat) : Int)) := addN (b := 2)
  have e1 : slM slSD (varM 0) (someM (varM 2)) (someM (opV addD 2 (cst (D.int 2)))) [.va (.str (S (cat ds ++ ex))), .va (.int (v : Int)), .va (.int ((2 * i : Nat) : Int))] = .ok (.str (sy ds[i])) [.va (.str (S (cat ds ++ ex))), .va (.int (v : Int)), .va (.int ((2 * i : Nat) : Int))] := by
    have e0 : opV addD 2 (cst (D.int 2)) [.va (.str (S (cat ds ++ ex))), .va (.int (v : Int)), .va (.int ((2 * i : Nat) : Int))] = .ok (.int ((2 * i + 2 : Nat) : Int)) [.va (.str (S (cat ds ++ ex))), .va (.int (v : Int)), .va (.int ((2 * i : Nat) : Int))] := by
      exact opV_ok rfl rfl h3
    have e2 : varM 0 [.va (.str (S (cat ds ++ ex))), .va (.int (v : Int)), .va (.int ((2 * i : Nat) : Int))] = .ok (.str (S (cat ds ++ ex))) [.va (.str (S (cat ds ++ ex))), .va (.int (v : Int)), .va (.int ((2 * i : Nat) : Int))] := rfl
    have e3 : varM 2 [.va (.str (S (cat ds ++ ex))), .va (.int (v : Int)), .va (.int ((2 * i : Nat) : Int))] = .ok (.int ((2 * i : Nat) : Int)) [.va (.str (S (cat ds ++ ex))), .va (.int (v : Int)), .va (.int ((2 * i : Nat) : Int))] := rfl
    rw [slM_, e2, bind_ok_, someM_, e3, bind_ok_, bind_ok_, someM_, e0, bind_ok_, bind_ok_, h1]; rfl
  unfold named_number_b1
  rw [sq_, ifS_, asB_, opM_, e1, bind_ok_, bind_ok_, nin_syl h2, opt_some_, bind_ok_, s_ok_, if_neg Bool.false_ne_true, seq_nx, setS_, opM_]
  have e4 : opV mulD 1 (cst (D.int 25)) [.va (.str (S (cat ds ++ ex))), .va (.int (v : Int)), .va (.int ((2 * i : Nat) : Int))] = .ok (.int ((v * 25 : Nat) : Int)) [.va (.str (S (cat ds ++ ex))), .va (.int (v : Int)), .va (.int ((2 * i : Nat) : Int))] := by
    exact opV_ok rfl rfl mulN
  have e5 : tupIdxM y_SYLLABLES (slM slSD (varM 0) (someM (varM 2)) (someM (opV addD 2 (cst (D.int 2))))) [.va (.str (S (cat ds ++ ex))), .va (.int (v : Int)), .va (.int ((2 * i : Nat) : Int))] = .ok (.int ((ds[i] : Nat) : Int)) [.va (.str (S (cat ds ++ ex))), .va (.int (v : Int)), .va (.int ((2 * i : Nat) : Int))] := by
    unfold tupIdxM
    rw [e1, bind_ok_]
    show (match y_SYLLABLES.findIdx? (· == sy ds[i]) with | some j => Res.ok (D.int (j : Nat)) _ | none => Res.stuck) = _
    rw [idx_syl h2]
  rw [e4, bind_ok_, e5, bind_ok_, addN, opt_some_, s_ok_]
  rfl
theorem nn_loop {ds ex : List Nat} (ys : List D) (hd : ∀ d ∈ ds, d < 25) (hl : ds.length ≤ 1000) (hx : ex.length ≤ 1000) {c : Cell} (hc : canC c = true) :
    ∃ c', canC c' = true ∧ forM (tgN 2) named_number_b1 (rangeC 0 2 ds.length ++ ys) [.va (.str (S (cat ds ++ ex))), .va (.int 0), c] = forM (tgN 2) named_number_b1 ys [.va (.str (S (cat ds ++ ex))), .va (.int ((val ds : Nat) : Int)), c'] := by
  obtain ⟨Δ', e1, c', e2, e3⟩ := forM_app (tgt := tgN 2) (body := named_number_b1) (P := fun i Δ => ∃ c', Δ = [.va (.str (S (cat ds ++ ex))), .va (.int ((val (ds.take i) : Nat) : Int)), c'] ∧ canC c' = true) ys (xs := rangeC 0 2 ds.length)
    (Δ := [.va (.str (S (cat ds ++ ex))), .va (.int 0), c]) 0 ⟨c, rfl, hc⟩ fun i d Δ hi ⟨c', hΔ, hc'⟩ => by
      subst hΔ
      obtain ⟨hlt, rfl⟩ := rangeC_get hi
      have hz : (0 : Int) + (i : Int) * 2 = ((2 * i : Nat) : Int) := by omega
      rw [hz, Nat.zero_add]
      refine ⟨_, _, tgN_ (by simp [canSet_, hc']), nn_body hlt hd hl hx, .va (.int ((2 * i : Nat) : Int)), ?_, rfl⟩
      rw [← val_app, List.take_append_getElem hlt]
  refine ⟨c', e3, e1.trans ?_⟩
  rw [e2, rangeC_len, Nat.zero_add, List.take_length]
theorem len_cat {ds ex : List Nat} (hl : ds.length ≤ 1000) (hx : ex.length ≤ 1000) : lenD (.str (S (cat ds ++ ex))) = some (.int ((2 * ds.length + ex.length : Nat) : Int)) := by
  show (if (S (cat ds ++ ex)).length ≤ 16777216 then some (D.int (S (cat ds ++ ex)).length) else none) = _
  rw [S_len, List.length_append, cat_len, if_pos (by omega)]
theorem nn_head {ds ex : List Nat} (h0 : 0 < ds.length + ex.length) (hx2 : ex.length % 2 = 0) (hl : ds.length ≤ 1000) (hx : ex.length ≤ 1000) (k : DEnv → SRes) {c1 c2 : Cell} :
    (sq (ifS (orM (notM (truM (isiM "str" (varM 0)))) (orM (notM (truM (varR 0))) (asB (opM eqD (opM modD (call1 lenD (varR 0)) (cst (D.int 2))) (cst (D.int 1)))))) (raiseM "InvalidBook" "what" (cst (D.str "name"))) SRes.nx) k) [.va (.str (S (cat ds ++ ex))), c1, c2] = k [.va (.str (S (cat ds ++ ex))), c1, c2] := by
  have e1 : isiM "str" (varM 0) [.va (.str (S (cat ds ++ ex))), c1, c2] = .ok (.bl true) [.va (.str (S (cat ds ++ ex))), c1, c2] := by
    show Res.opt ((isiB "str" (.str (S (cat ds ++ ex)))).map D.bl) _ = _
    have : isiB "str" (.str (S (cat ds ++ ex))) = some true := kit_ss
    rw [this]; rfl
  have e2 : truD (.str (S (cat ds ++ ex))) = some true := by
    show (if (S (cat ds ++ ex)).length ≤ 16777216 then some (((S (cat ds ++ ex)).length : Int) != 0) else none) = _
    rw [S_len, List.length_append, cat_len, if_pos (by omega)]
    simp only [Option.some.injEq, bne_iff_ne, ne_eq]; omega
  have e3 : (opM modD (call1 lenD (varR 0)) (cst (D.int 2))) [.va (.str (S (cat ds ++ ex))), c1, c2] = .ok (.int 0) [.va (.str (S (cat ds ++ ex))), c1, c2] := by
    refine opM_ok (x := .int ((2 * ds.length + ex.length : Nat) : Int)) (Δ1 := [.va (.str (S (cat ds ++ ex))), c1, c2]) ?_ rfl ?_
    · rw [call1_, varR_]; show Res.opt (lenD (.str (S (cat ds ++ ex)))) _ = _; rw [len_cat hl hx]; rfl
    · rw [modD_int (by omega)]; congr 2; omega
  have e4 : truD (.bl true) = some true := rfl
  rw [sq_, ifS_, orM_, notM_, truM_, e1, bind_ok_, e4, opt_some_, map_ok_, bind_ok_]
  simp only [Bool.not_true, Bool.false_eq_true, if_false]
  rw [orM_, notM_, truM_, varR_, show rdR [.va (.str (S (cat ds ++ ex))), c1, c2] 0 = some (.str (S (cat ds ++ ex))) from rfl, opt_some_, bind_ok_, e2, opt_some_, map_ok_, bind_ok_]
  simp only [Bool.not_true, Bool.false_eq_true, if_false]
  rw [asB_, opM_, e3, bind_ok_, bind_ok_, eqD_int, opt_some_, bind_ok_]
  rfl
theorem rng3 {ds ex : List Nat} (hl : ds.length ≤ 900) (hx2 : ex.length % 2 = 0) (hx : ex.length ≤ 100) {c1 c2 : Cell} :
    range3M (cst (D.int 0)) (call1 lenD (varR 0)) (cst (D.int 2)) [.va (.str (S (cat ds ++ ex))), c1, c2] = .ok (rangeC 0 2 (ds.length + ex.length / 2)) [.va (.str (S (cat ds ++ ex))), c1, c2] := by
  have e1 : call1 lenD (varR 0) [.va (.str (S (cat ds ++ ex))), c1, c2] = .ok (.int (2 * ((ds.length + ex.length / 2 : Nat) : Int))) [.va (.str (S (cat ds ++ ex))), c1, c2] := by
    rw [call1_, varR_, show rdR [.va (.str (S (cat ds ++ ex))), c1, c2] 0 = some (.str (S (cat ds ++ ex))) from rfl, opt_some_, bind_ok_, len_cat (by omega) (by omega), opt_some_]
    congr 2; omega
  have hs := small_two (k := ds.length + ex.length / 2) (by omega)
  have hz := size_two (ds.length + ex.length / 2)
  generalize ds.length + ex.length / 2 = k at *
  unfold range3M
  rw [bind_ok_, e1, bind_ok_, bind_ok_]
  show gd (decide _) _ = _
  rw [hz, decide_eq_true ⟨by decide, by decide, hs, by omega⟩]
  show Res.ok (rangeC 0 2 ((k : Nat) : Int).toNat) _ = _
  rw [Int.toNat_natCast]
theorem nn_ok {ds : List Nat} (hd : ∀ d ∈ ds, d < 25) (h0 : 0 < ds.length) (hl : ds.length ≤ 200) (he : nm (val ds) = S (cat ds)) : F_named_number [.va (.str (S (cat ds)))] = .ok (.int ((val ds : Nat) : Int)) [.no] := by
  unfold F_named_number m_named_number
  have hv : val ds < 25 ^ 250 := Nat.lt_of_lt_of_le (val_lt _ ds rfl hd) (Nat.pow_le_pow_right (by omega) (by omega))
  have hc : cat ds = cat ds ++ [] := (List.append_nil _).symm
  have hs : ([.va (.str (S (cat ds)))] : DEnv) ++ List.replicate (3 - 1) .no = [.va (.str (S (cat ds ++ []))), .no, .no] := by rw [List.append_nil]; rfl
  rw [bodyF_, hs, nn_head (by simp; omega) rfl (by omega) (by decide)]
  obtain ⟨c', h1, h2⟩ := nn_loop (ds := ds) (ex := []) [] hd (by omega) (by decide) (c := .no) rfl
  rw [List.append_nil (rangeC 0 2 ds.length), forM_nil] at h2
  have hset : setS 1 (cst (D.int 0)) [.va (.str (S (cat ds ++ []))), .no, .no] = .nx [.va (.str (S (cat ds ++ []))), .va (.int 0), .no] := rfl
  rw [sq_, hset, seq_nx, sq_, forS_, rng3 (by omega) rfl (by decide), s_ok_]
  simp only [List.length_nil, Nat.zero_div, Nat.add_zero]
  rw [h2, seq_nx]
  have hcall : callM F_term_name (aV (varM 1) (cst ([] : List Arg))) [.va (.str (S (cat ds ++ []))), .va (.int ((val ds : Nat) : Int)), c'] = .ok (.str (nm (val ds))) [.va (.str (S (cat ds ++ []))), .va (.int ((val ds : Nat) : Int)), c'] := by
    show FRes.toR [Sum.inl (D.int ((val ds : Nat) : Int))] _ (F_term_name [.va (.int ((val ds : Nat) : Int))]) = _
    rw [tn_ok hv]; rfl
  rw [sq_, ifS_, asB_, opM_, hcall, bind_ok_, varR_, show rdR [.va (.str (S (cat ds ++ []))), .va (.int ((val ds : Nat) : Int)), c'] 0 = some (.str (S (cat ds ++ []))) from rfl, opt_some_, bind_ok_, neD_str, opt_some_, bind_ok_, s_ok_]
  rw [List.append_nil, he]
  simp [varM, kpD_map]
theorem nn_bad {ds : List Nat} (hd : ∀ d ∈ ds, d < 25) (h0 : 0 < ds.length) (hl : ds.length ≤ 200) (he : nm (val ds) ≠ S (cat ds)) : F_named_number [.va (.str (S (cat ds)))] = .ex (xB "name") [.no] := by
  unfold F_named_number m_named_number
  have hv : val ds < 25 ^ 250 := Nat.lt_of_lt_of_le (val_lt _ ds rfl hd) (Nat.pow_le_pow_right (by omega) (by omega))
  have hs : ([.va (.str (S (cat ds)))] : DEnv) ++ List.replicate (3 - 1) .no = [.va (.str (S (cat ds ++ []))), .no, .no] := by rw [List.append_nil]; rfl
  rw [bodyF_, hs, nn_head (by simp; omega) rfl (by omega) (by decide)]
  obtain ⟨c', h1, h2⟩ := nn_loop (ds := ds) (ex := []) [] hd (by omega) (by decide) (c := .no) rfl
  rw [List.append_nil (rangeC 0 2 ds.length), forM_nil] at h2
  have hset : setS 1 (cst (D.int 0)) [.va (.str (S (cat ds ++ []))), .no, .no] = .nx [.va (.str (S (cat ds ++ []))), .va (.int 0), .no] := rfl
  rw [sq_, hset, seq_nx, sq_, forS_, rng3 (by omega) rfl (by decide), s_ok_]
  simp only [List.length_nil, Nat.zero_div, Nat.add_zero]
  rw [h2, seq_nx]
  have hcall : callM F_term_name (aV (varM 1) (cst ([] : List Arg))) [.va (.str (S (cat ds ++ []))), .va (.int ((val ds : Nat) : Int)), c'] = .ok (.str (nm (val ds))) [.va (.str (S (cat ds ++ []))), .va (.int ((val ds : Nat) : Int)), c'] := by
    show FRes.toR [Sum.inl (D.int ((val ds : Nat) : Int))] _ (F_term_name [.va (.int ((val ds : Nat) : Int))]) = _
    rw [tn_ok hv]; rfl
  rw [sq_, ifS_, asB_, opM_, hcall, bind_ok_, varR_, show rdR [.va (.str (S (cat ds ++ []))), .va (.int ((val ds : Nat) : Int)), c'] 0 = some (.str (S (cat ds ++ []))) from rfl, opt_some_, bind_ok_, neD_str, opt_some_, bind_ok_, s_ok_]
  rw [List.append_nil]
  simp [he, kpD_map]
theorem nn_ba {ds : List Nat} (hd : ∀ d ∈ ds, d < 25) (hl : ds.length ≤ 200) : F_named_number [.va (.str (S (cat ds ++ [98, 97])))] = .ex (xB "name") [.no] := by
  unfold F_named_number m_named_number
  have hs : ([.va (.str (S (cat ds ++ [98, 97])))] : DEnv) ++ List.replicate (3 - 1) .no = [.va (.str (S (cat ds ++ [98, 97]))), .no, .no] := rfl
  rw [bodyF_, hs, nn_head (by simp) rfl (by omega) (by decide)]
  obtain ⟨c', h1, h2⟩ := nn_loop (ds := ds) (ex := [98, 97]) [.int (0 + ((ds.length : Nat) : Int) * 2)] hd (by omega) (by decide) (c := .no) rfl
  have hset : setS 1 (cst (D.int 0)) [.va (.str (S (cat ds ++ [98, 97]))), .no, .no] = .nx [.va (.str (S (cat ds ++ [98, 97]))), .va (.int 0), .no] := rfl
  have hr : rangeC 0 2 (ds.length + 1) = rangeC 0 2 ds.length ++ [.int (0 + ((ds.length : Nat) : Int) * 2)] := by
    unfold rangeC; rw [List.range_succ, List.map_append]; rfl
  rw [sq_, hset, seq_nx, sq_, forS_, rng3 (by omega) rfl (by decide), s_ok_, show ds.length + [98, 97].length / 2 = ds.length + 1 from rfl, hr, h2]
  have hc : (0 : Int) + ((ds.length : Nat) : Int) * 2 = ((2 * ds.length : Nat) : Int) := by omega
  rw [hc, forM_cons (Δ1 := [.va (.str (S (cat ds ++ [98, 97]))), .va (.int ((val ds : Nat) : Int)), .va (.int ((2 * ds.length : Nat) : Int))]) (tgN_ (by simp [canSet_, h1]))]
  have e0 : opV addD 2 (cst (D.int 2)) [.va (.str (S (cat ds ++ [98, 97]))), .va (.int ((val ds : Nat) : Int)), .va (.int ((2 * ds.length : Nat) : Int))] = .ok (.int ((2 * ds.length + 2 : Nat) : Int)) [.va (.str (S (cat ds ++ [98, 97]))), .va (.int ((val ds : Nat) : Int)), .va (.int ((2 * ds.length : Nat) : Int))] := opV_ok rfl rfl (addN (b := 2))
  have hcl := cat_len ds
  have h1' : slSD (.str (S (cat ds ++ [98, 97]))) (some ((2 * ds.length : Nat) : Int)) (some ((2 * ds.length + 2 : Nat) : Int)) = some (.str (S [98, 97])) := by
    show (if (S (cat ds ++ [98, 97])).length ≤ 16777216 then some (D.str (cutS (S (cat ds ++ [98, 97])) _ _)) else none) = _
    rw [S_len, List.length_append, if_pos (by simp; omega), cut_nat (by omega) (by rw [List.length_append]; simp; omega), show 2 * ds.length + 2 - 2 * ds.length = 2 by omega, List.drop_append_of_le_length (by omega), List.drop_eq_nil_of_le (by omega)]
    rfl
  have e1 : slM slSD (varM 0) (someM (varM 2)) (someM (opV addD 2 (cst (D.int 2)))) [.va (.str (S (cat ds ++ [98, 97]))), .va (.int ((val ds : Nat) : Int)), .va (.int ((2 * ds.length : Nat) : Int))] = .ok (.str (S [98, 97])) [.va (.str (S (cat ds ++ [98, 97]))), .va (.int ((val ds : Nat) : Int)), .va (.int ((2 * ds.length : Nat) : Int))] := by
    have e2 : varM 0 [.va (.str (S (cat ds ++ [98, 97]))), .va (.int ((val ds : Nat) : Int)), .va (.int ((2 * ds.length : Nat) : Int))] = .ok (.str (S (cat ds ++ [98, 97]))) [.va (.str (S (cat ds ++ [98, 97]))), .va (.int ((val ds : Nat) : Int)), .va (.int ((2 * ds.length : Nat) : Int))] := rfl
    have e3 : varM 2 [.va (.str (S (cat ds ++ [98, 97]))), .va (.int ((val ds : Nat) : Int)), .va (.int ((2 * ds.length : Nat) : Int))] = .ok (.int ((2 * ds.length : Nat) : Int)) [.va (.str (S (cat ds ++ [98, 97]))), .va (.int ((val ds : Nat) : Int)), .va (.int ((2 * ds.length : Nat) : Int))] := rfl
    rw [slM_, e2, bind_ok_, someM_, e3, bind_ok_, bind_ok_, someM_, e0, bind_ok_, bind_ok_, h1']; rfl
  unfold named_number_b1
  rw [sq_, ifS_, asB_, opM_, e1, bind_ok_, bind_ok_, nin_ba, opt_some_, bind_ok_, s_ok_, if_pos rfl]
  simp [kpD_map]
theorem nn_odd {l : List Nat} (h : l.length % 2 = 1) (hl : l.length ≤ 1000) : F_named_number [.va (.str (S l))] = .ex (xB "name") [.no] := by
  unfold F_named_number m_named_number
  rw [bodyF_]
  have h1 : isiB "str" (.str (S l)) = some true := kit_ss
  have h2 : truD (.str (S l)) = some true := by
    show (if (S l).length ≤ 16777216 then some (((S l).length : Int) != 0) else none) = _
    rw [S_len, if_pos (by omega)]
    simp only [Option.some.injEq, bne_iff_ne, ne_eq]; omega
  have h3 : lenD (.str (S l)) = some (.int (l.length : Int)) := by
    show (if (S l).length ≤ 16777216 then some (D.int (S l).length) else none) = _
    rw [S_len, if_pos (by omega)]
  have h4 : modD (.int (l.length : Int)) (.int 2) = some (.int 1) := by rw [modD_int (by omega)]; congr 2; omega
  have h5 : truD (.bl true) = some true := rfl
  simp [isiM, varM, rdR, h1, h2, h3, h4, h5, kpD_map]
theorem nn_empty : F_named_number [.va (.str "")] = .ex (xB "name") [.no] := by
  unfold F_named_number m_named_number
  rw [bodyF_]
  have h1 : isiB "str" (.str "") = some true := kit_ss
  have h2 : truD (.str "") = some false := rfl
  have h5 : truD (.bl true) = some true := rfl
  simp [isiM, varM, rdR, h1, h2, h5, kpD_map]
theorem nn_seven : F_named_number [.va (.int 7)] = .ex (xB "name") [.no] := by
  unfold F_named_number m_named_number
  rw [bodyF_]
  have h1 : isiB "str" (.int 7) = some false := kit_is
  have h5 : truD (.bl false) = some false := rfl
  simp [isiM, varM, rdR, h1, h5, kpD_map]
theorem nn_tup : F_named_number [.va (.tup [.str "ka"])] = .ex (xB "name") [.no] := by
  unfold F_named_number m_named_number
  rw [bodyF_]
  have h1 : isiB "str" (.tup [.str "ka"]) = some false := kit_ts
  have h5 : truD (.bl false) = some false := rfl
  simp [isiM, varM, rdR, h1, h5, kpD_map]
/-! ### refusals -/
theorem hmB : h_InvalidBook "InvalidBook" = some true := rfl
theorem ref_name {x : D} {w : Str} (hx : isD x .non = some (.bl false)) (h : F_named_number [.va x] = .ex (xB w) [.no]) : F_law_refusal [.va x, .va .non] = .ok (.str w) [.no, .no] := by
  unfold F_law_refusal m_law_refusal
  have hs : ([.va x, .va .non] : DEnv) ++ List.replicate (3 - 2) .no = [.va x, .va .non, .no] := rfl
  rw [bodyF_, hs]
  have hcall : callM F_named_number (aV (varM 0) (cst ([] : List Arg))) [.va x, .va .non, .no] = .ex (xB w) [.va x, .va .non, .no] := by
    show FRes.toR [Sum.inl x] _ (F_named_number [.va x]) = _
    rw [h]; rfl
  have hb : ifS (asB (opV isD 0 (cst D.non))) (exprS (callM F_term_name (aV (varM 1) (cst ([] : List Arg))))) (exprS (callM F_named_number (aV (varM 0) (cst ([] : List Arg))))) [.va x, .va .non, .no] = .ex (xB w) [.va x, .va .non, .no] := by
    rw [ifS_, asB_, opV_ok (z := D.bl false) rfl rfl hx, bind_ok_, s_ok_]
    show exprS _ _ = _
    rw [exprS_, hcall]; rfl
  rw [sq_]
  unfold tryM
  rw [hb]
  rfl
theorem ref_num {y : D} {w : Str} (h : F_term_name [.va y] = .ex (xB w) [.no]) : F_law_refusal [.va .non, .va y] = .ok (.str w) [.no, .no] := by
  unfold F_law_refusal m_law_refusal
  have hs : ([.va .non, .va y] : DEnv) ++ List.replicate (3 - 2) .no = [.va .non, .va y, .no] := rfl
  rw [bodyF_, hs]
  have hcall : callM F_term_name (aV (varM 1) (cst ([] : List Arg))) [.va .non, .va y, .no] = .ex (xB w) [.va .non, .va y, .no] := by
    show FRes.toR [Sum.inl y] _ (F_term_name [.va y]) = _
    rw [h]; rfl
  have hb : ifS (asB (opV isD 0 (cst D.non))) (exprS (callM F_term_name (aV (varM 1) (cst ([] : List Arg))))) (exprS (callM F_named_number (aV (varM 0) (cst ([] : List Arg))))) [.va .non, .va y, .no] = .ex (xB w) [.va .non, .va y, .no] := by
    rw [ifS_, asB_, opV_ok (x := .non) (y := .non) (z := D.bl true) rfl rfl rfl, bind_ok_, s_ok_]
    show exprS _ _ = _
    rw [exprS_, hcall]; rfl
  rw [sq_]
  unfold tryM
  rw [hb]
  rfl
/-! ### the key -/
def pairD (d : Nat) : D := .lst [.int ((d / 5 : Nat) : Int), .int ((d % 5 : Nat) : Int)]
def keyD (ds : List Nat) : List D := .int ((ds.length : Nat) : Int) :: ds.map pairD
theorem six {d : Nat} (h : d < 25) : sindexD "kmnpt" (.str ⟨#[(syc d).getD 0 0]⟩) = some (.int ((d / 5 : Nat) : Int)) ∧ sindexD "aeiou" (.str ⟨#[(syc d).getD 1 0]⟩) = some (.int ((d % 5 : Nat) : Int)) := by
  have h1 : ∀ d ∈ List.range 25, Builtin.Str.occurrences "kmnpt" ⟨#[(syc d).getD 0 0]⟩ 0 ("kmnpt" : Str).length 1 = [d / 5] := by decide +kernel
  have h2 : ∀ d ∈ List.range 25, Builtin.Str.occurrences "aeiou" ⟨#[(syc d).getD 1 0]⟩ 0 ("aeiou" : Str).length 1 = [d % 5] := by decide +kernel
  have hm := List.mem_range.mpr h
  constructor
  · unfold sindexD; simp only [h1 d hm]
  · unfold sindexD; simp only [h2 d hm]
theorem ix_sy {d : Nat} : ixD (.str (sy d)) (.int 0) = some (.str ⟨#[(syc d).getD 0 0]⟩) ∧ ixD (.str (sy d)) (.int 1) = some (.str ⟨#[(syc d).getD 1 0]⟩) := ⟨rfl, rfl⟩
theorem key_elt {d : Nat} (h : d < 25) {c0 c1 c2 : Cell} : (lstE (lstM (consM (sm1M sindexD (cst (D.str "kmnpt")) (opV ixD 3 (cst (D.int 0)))) (consM (sm1M sindexD (cst (D.str "aeiou")) (opV ixD 3 (cst (D.int 1)))) (cst ([] : List D)))))) [c0, c1, c2, .va (.str (sy d))] = .ok (pairD d) [c0, c1, c2, .va (.str (sy d))] := by
  obtain ⟨h1, h2⟩ := six h
  obtain ⟨h3, h4⟩ := ix_sy (d := d)
  have e1 : sm1M sindexD (cst (D.str "kmnpt")) (opV ixD 3 (cst (D.int 0))) [c0, c1, c2, .va (.str (sy d))] = .ok (.int ((d / 5 : Nat) : Int)) [c0, c1, c2, .va (.str (sy d))] := by
    unfold sm1M
    rw [bind_ok_]
    show (opV ixD 3 (cst (D.int 0)) [c0, c1, c2, .va (.str (sy d))]).bind _ = _
    rw [opV_ok rfl rfl h3, bind_ok_, h1]; rfl
  have e2 : sm1M sindexD (cst (D.str "aeiou")) (opV ixD 3 (cst (D.int 1))) [c0, c1, c2, .va (.str (sy d))] = .ok (.int ((d % 5 : Nat) : Int)) [c0, c1, c2, .va (.str (sy d))] := by
    unfold sm1M
    rw [bind_ok_]
    show (opV ixD 3 (cst (D.int 1)) [c0, c1, c2, .va (.str (sy d))]).bind _ = _
    rw [opV_ok rfl rfl h4, bind_ok_, h2]; rfl
  rw [lstE_]
  unfold lstM
  rw [consM_, e1, bind_ok_, consM_, e2, bind_ok_, map_ok_, map_ok_, bind_ok_]
  rfl
theorem key_ok {ds : List Nat} (hd : ∀ d ∈ ds, d < 25) (hl : ds.length ≤ 1000) : F_law_key [.va (.str (S (cat ds)))] = .fr (keyD ds) [.no] := by
  unfold F_law_key m_law_key
  have hs : ([.va (.str (S (cat ds)))] : DEnv) ++ List.replicate (4 - 1) .no = [.va (.str (S (cat ds))), .no, .no, .no] := rfl
  rw [bodyF_, hs]
  have hcl := cat_len ds
  have h1 : range1M (opM divD (call1 lenD (varR 0)) (cst (D.int 2))) [.va (.str (S (cat ds))), .no, .no, .no] = .ok (rangeL 0 ds.length) [.va (.str (S (cat ds))), .no, .no, .no] := by
    have e : opM divD (call1 lenD (varR 0)) (cst (D.int 2)) [.va (.str (S (cat ds))), .no, .no, .no] = .ok (.int ((ds.length : Nat) : Int)) [.va (.str (S (cat ds))), .no, .no, .no] := by
      have hlen := len_cat (ds := ds) (ex := []) hl (by decide)
      rw [List.append_nil] at hlen
      refine opM_ok (x := .int ((2 * ds.length : Nat) : Int)) (Δ1 := [.va (.str (S (cat ds))), .no, .no, .no]) ?_ rfl ?_
      · rw [call1_, varR_, show rdR [.va (.str (S (cat ds))), .no, .no, .no] 0 = some (.str (S (cat ds))) from rfl, opt_some_, bind_ok_, hlen]; rfl
      · rw [divD_int (by omega)]; congr 2; omega
    rw [range1_, e, bind_ok_, rng1_nat (by unfold lim62; omega)]
  have h2 : lcM [2] (range1M (opM divD (call1 lenD (varR 0)) (cst (D.int 2)))) (tgN 2) (cst true) (slM slSD (varM 0) (someM (opM mulD (cst (D.int 2)) (varR 2))) (someM (opM addD (opM mulD (cst (D.int 2)) (varR 2)) (cst (D.int 2))))) [.va (.str (S (cat ds))), .no, .no, .no] = .ok (ds.map fun d => D.str (sy d)) [.va (.str (S (cat ds))), .no, .no, .no] := by
    unfold lcM
    rw [h1, bind_ok_, rangeL_len]
    have hg : (decide (ds.length < 16777216) && [2].all fun v => plainC ([.va (.str (S (cat ds))), .no, .no, .no] : DEnv)[v]?) = true := by rw [decide_eq_true (by omega)]; rfl
    rw [hg, gd_true_, compM_ok (ys := ds.map fun d => D.str (sy d)) (by rw [rangeL_len, List.length_map]), List.nil_append]
    intro i x hi
    obtain ⟨hlt, rfl⟩ := rangeL_get hi
    have hz : (0 : Int) + (i : Int) = ((i : Nat) : Int) := by omega
    rw [hz]
    have hm : mulD (.int 2) (.int ((i : Nat) : Int)) = some (.int ((2 * i : Nat) : Int)) := by rw [mulD_l (by omega), Int.natCast_mul]; rfl
    have e1 : opM mulD (cst (D.int 2)) (varR 2) [.va (.str (S (cat ds))), .no, .va (.int ((i : Nat) : Int)), .no] = .ok (.int ((2 * i : Nat) : Int)) [.va (.str (S (cat ds))), .no, .va (.int ((i : Nat) : Int)), .no] := opM_ok rfl rfl hm
    have e2 : opM addD (opM mulD (cst (D.int 2)) (varR 2)) (cst (D.int 2)) [.va (.str (S (cat ds))), .no, .va (.int ((i : Nat) : Int)), .no] = .ok (.int ((2 * i + 2 : Nat) : Int)) [.va (.str (S (cat ds))), .no, .va (.int ((i : Nat) : Int)), .no] := opM_ok e1 rfl (addN (b := 2))
    have e3 : varM 0 [.va (.str (S (cat ds))), .no, .va (.int ((i : Nat) : Int)), .no] = .ok (.str (S (cat ds))) [.va (.str (S (cat ds))), .no, .va (.int ((i : Nat) : Int)), .no] := rfl
    have hcut := sl_cat (ex := []) hlt hl (by decide)
    rw [List.append_nil] at hcut
    refine ⟨[.va (.str (S (cat ds))), .no, .va (.int ((i : Nat) : Int)), .no], [.va (.str (S (cat ds))), .no, .va (.int ((i : Nat) : Int)), .no], .str (sy ds[i]), rfl, rfl, ?_, by simp [hlt], rfl⟩
    rw [slM_, e3, bind_ok_, someM_, e1, bind_ok_, bind_ok_, someM_, e2, bind_ok_, bind_ok_, hcut]; rfl
  have h3 : setOS 1 (lcM [2] (range1M (opM divD (call1 lenD (varR 0)) (cst (D.int 2)))) (tgN 2) (cst true) (slM slSD (varM 0) (someM (opM mulD (cst (D.int 2)) (varR 2))) (someM (opM addD (opM mulD (cst (D.int 2)) (varR 2)) (cst (D.int 2)))))) [.va (.str (S (cat ds))), .no, .no, .no] = .nx [.va (.str (S (cat ds))), .ow (ds.map fun d => D.str (sy d)), .no, .no] := by
    rw [setOS_, h2]; rfl
  rw [sq_, h3, seq_nx, retFS_, opM_]
  have h4 : lstE (lstM (consM (call1 lenD (varR 1)) (cst ([] : List D)))) [.va (.str (S (cat ds))), .ow (ds.map fun d => D.str (sy d)), .no, .no] = .ok (.lst [.int ((ds.length : Nat) : Int)]) [.va (.str (S (cat ds))), .ow (ds.map fun d => D.str (sy d)), .no, .no] := by
    have e : call1 lenD (varR 1) [.va (.str (S (cat ds))), .ow (ds.map fun d => D.str (sy d)), .no, .no] = .ok (.int ((ds.length : Nat) : Int)) [.va (.str (S (cat ds))), .ow (ds.map fun d => D.str (sy d)), .no, .no] := by
      rw [call1_, varR_, show rdR [.va (.str (S (cat ds))), .ow (ds.map fun d => D.str (sy d)), .no, .no] 1 = some (.lst (ds.map fun d => D.str (sy d))) from rfl, opt_some_, bind_ok_, lenD_lst, opt_some_, List.length_map]
    rw [lstE_]; unfold lstM
    rw [consM_, e, bind_ok_, map_ok_, bind_ok_]; rfl
  have h5 : lstE (lcM [3] (seqM (varM 1)) (tgN 3) (cst true) (lstE (lstM (consM (sm1M sindexD (cst (D.str "kmnpt")) (opV ixD 3 (cst (D.int 0)))) (consM (sm1M sindexD (cst (D.str "aeiou")) (opV ixD 3 (cst (D.int 1)))) (cst ([] : List D))))))) [.va (.str (S (cat ds))), .ow (ds.map fun d => D.str (sy d)), .no, .no] = .ok (.lst (ds.map pairD)) [.va (.str (S (cat ds))), .va (.lst (ds.map fun d => D.str (sy d))), .no, .no] := by
    rw [lstE_]; unfold lcM
    have e : seqM (varM 1) [.va (.str (S (cat ds))), .ow (ds.map fun d => D.str (sy d)), .no, .no] = .ok (ds.map fun d => D.str (sy d)) [.va (.str (S (cat ds))), .va (.lst (ds.map fun d => D.str (sy d))), .no, .no] := rfl
    rw [e, bind_ok_]
    have hg : (decide ((ds.map fun d => D.str (sy d)).length < 16777216) && [3].all fun v => plainC ([.va (.str (S (cat ds))), .va (.lst (ds.map fun d => D.str (sy d))), .no, .no] : DEnv)[v]?) = true := by rw [List.length_map, decide_eq_true (by omega)]; rfl
    rw [hg, gd_true_, compM_ok (ys := ds.map pairD) (by simp), List.nil_append, map_ok_]
    intro i x hi
    rw [List.getElem?_map] at hi
    cases q : ds[i]? with
    | none => rw [q] at hi; cases hi
    | some d =>
      rw [q] at hi; cases hi
      have hdd := hd d (List.mem_of_getElem? q)
      exact ⟨[.va (.str (S (cat ds))), .va (.lst (ds.map fun d => D.str (sy d))), .no, .va (.str (sy d))], [.va (.str (S (cat ds))), .va (.lst (ds.map fun d => D.str (sy d))), .no, .va (.str (sy d))], pairD d, rfl, rfl, key_elt hdd, by simp [q], rfl⟩
  rw [h4, bind_ok_, h5, bind_ok_]
  have h6 : catF (.lst [.int ((ds.length : Nat) : Int)]) (.lst (ds.map pairD)) = some (keyD ds) := by
    show (if [D.int ((ds.length : Nat) : Int)].length + (ds.map pairD).length ≤ 16777216 then some ([D.int ((ds.length : Nat) : Int)] ++ ds.map pairD) else none) = _
    rw [List.length_map, List.length_singleton, if_pos (by omega)]; rfl
  rw [h6, opt_some_, s_ok_]
  simp [kpD_map]
end K01
end KL
namespace KL
namespace K01
open PySem L2
/-! ### the order of keys -/
theorem digs_next (n : Nat) : (digs n).length < (digs (n + 1)).length ∨ ∃ (pre s t : List Nat) (d e : Nat), digs n = pre ++ d :: s ∧ digs (n + 1) = pre ++ e :: t ∧ d < e ∧ s.length = t.length := by
  induction n using Nat.strongRecOn with
  | ind n ih =>
    by_cases h : n < 24
    · exact .inr ⟨[], [], [], n, n + 1, digs_lt (by omega), digs_lt (by omega), by omega, rfl⟩
    by_cases h2 : n = 24
    · subst h2
      refine .inl ?_
      rw [digs_lt (by omega), digs_ge (n := 24 + 1) (by omega), digs_lt (n := (24 + 1) / 25) (by omega)]
      simp
    · have g1 := digs_ge (n := n) (by omega)
      have g2 := digs_ge (n := n + 1) (by omega)
      by_cases h3 : n % 25 < 24
      · have q1 : (n + 1) / 25 = n / 25 := by omega
        have q2 : (n + 1) % 25 = n % 25 + 1 := by omega
        rw [q1, q2] at g2
        exact .inr ⟨digs (n / 25), [], [], n % 25, n % 25 + 1, g1, g2, by omega, rfl⟩
      · have q1 : (n + 1) / 25 = n / 25 + 1 := by omega
        have q2 : (n + 1) % 25 = 0 := by omega
        have q3 : n % 25 = 24 := by omega
        rw [q1, q2] at g2
        rw [q3] at g1
        rcases ih (n / 25) (by omega) with hl | ⟨pre, s, t, d, e, e1, e2, e3, e4⟩
        · left; rw [g1, g2]; simp; exact hl
        · right
          exact ⟨pre, s ++ [24], t ++ [0], d, e, by rw [g1, e1]; simp, by rw [g2, e2]; simp, e3, by simp [e4]⟩
open PySem.W PyProof.Rows in
def pairP (d : Nat) : PyData := .list [.int ((d / 5 : Nat) : Int), .int ((d % 5 : Nat) : Int)]
def keyP (ds : List Nat) : PyData := .list (.int ((ds.length : Nat) : Int) :: ds.map pairP)
theorem toPys_map (ds : List Nat) : toPys (ds.map pairD) = some (ds.map pairP) := by
  induction ds with
  | nil => simp [toPys]
  | cons d ds ih => rw [List.map_cons, toPys, ih]; simp [pairD, toPy, toPys, pairP]
theorem toPy_key (ds : List Nat) : toPy (.lst (keyD ds)) = some (keyP ds) := by
  rw [toPy, keyD, toPys, toPys_map]; simp [toPy, keyP]
theorem lay_pairs (ds : List Nat) : PyData.canLayAll0 (ds.map pairP) = true ∧ PyData.depthAll (ds.map pairP) ≤ 1 := by
  induction ds with
  | nil => simp [PyData.canLayAll0, PyData.depthAll]
  | cons d ds ih =>
    rw [List.map_cons, PyData.canLayAll0, PyData.depthAll, ih.1]
    refine ⟨by simp [pairP, PyData.canLay0, PyData.canLayAll0], ?_⟩
    have : (pairP d).depth = 1 := by simp [pairP, PyData.depth, PyData.depthAll]
    rw [this]; exact Nat.max_le.mpr ⟨Nat.le_refl _, ih.2⟩
theorem shaped_key (ds : List Nat) : SeqAt.shaped (keyP ds) = true := by
  obtain ⟨h1, h2⟩ := lay_pairs ds
  unfold SeqAt.shaped keyP
  rw [PyData.canLay0, PyData.canLayAll0, PyData.depth, PyData.depthAll, h1]
  have : PyData.depth (.int ((ds.length : Nat) : Int)) = 0 := by simp [PyData.depth]
  rw [this]
  simp [PyData.canLay0]; omega
open PySem.W in
theorem alike_pairs : ∀ ds es : List Nat, alikeAll (ds.map pairP) (es.map pairP) = true
  | [], _ => by simp [alikeAll]
  | _ :: _, [] => by simp [alikeAll]
  | d :: ds, e :: es => by rw [List.map_cons, List.map_cons, alikeAll, alike_pairs ds es]; simp [pairP, alike, alikeAll]
open PySem.W in
theorem alike_key (ds es : List Nat) : alike (keyP ds) (keyP es) = true := by
  unfold keyP
  rw [alike, alikeAll, alike_pairs]; simp [alike]
open PySem.W PyProof.Rows
theorem blt_int (a b : Int) : itemOrd.blt (.inl a) (.inl b) = decide (a < b) := rfl
theorem lt_int_ {a b : Int} {r t : List (Int ⊕ List Nat)} (h : a < b) : lexLt itemOrd (.inl a :: r) (.inl b :: t) = true :=
  (lex_true (O := itemOrd)).mpr (.inl (by rw [blt_int]; exact decide_eq_true h))
theorem same_ {x : Int ⊕ List Nat} {r t : List (Int ⊕ List Nat)} (h : lexLt itemOrd r t = true) : lexLt itemOrd (x :: r) (x :: t) = true := (lex_self (O := itemOrd) x r t).trans h
theorem toks_pre (pre ds : List Nat) : ∃ p, (∀ es : List Nat, keyToksAll ((pre ++ es).map pairP) = p ++ keyToksAll (es.map pairP)) := by
  induction pre with
  | nil => exact ⟨[], fun es => rfl⟩
  | cons d pre ih =>
    obtain ⟨p, hp⟩ := ih
    refine ⟨.inl 1 :: (keyToks (pairP d) ++ p), fun es => ?_⟩
    rw [List.cons_append, List.map_cons, keyToksAll, hp es]; simp
theorem lt_pairs {pre s t : List Nat} {d e : Nat} (h : d < e) : lexLt itemOrd (keyToksAll ((pre ++ d :: s).map pairP)) (keyToksAll ((pre ++ e :: t).map pairP)) = true := by
  obtain ⟨p, hp⟩ := toks_pre pre []
  rw [hp, hp, lex_pre, List.map_cons, List.map_cons, keyToksAll, keyToksAll]
  refine same_ ?_
  unfold pairP
  simp only [keyToks, keyToksAll, List.cons_append, List.nil_append]
  refine same_ ?_
  by_cases hq : d / 5 < e / 5
  · exact lt_int_ (by omega)
  · have : d / 5 = e / 5 := by omega
    rw [this]
    exact same_ (same_ (lt_int_ (by omega)))
theorem key_lt (n : Nat) : dataLt (keyP (digs n)) (keyP (digs (n + 1))) = true := by
  unfold keyP
  rw [dataLt_list, keyToksAll, keyToksAll]
  refine same_ ?_
  simp only [keyToks, List.cons_append, List.nil_append]
  rcases digs_next n with h | ⟨pre, s, t, d, e, e1, e2, e3, e4⟩
  · exact lt_int_ (by omega)
  · rw [e1, e2]
    have hl : (pre ++ d :: s).length = (pre ++ e :: t).length := by simp [e4]
    rw [hl]
    exact same_ (lt_pairs e3)
theorem key_le (n : Nat) : leG (.lst (keyD (digs (n + 1)))) (.lst (keyD (digs n))) = some (.bl false) := by
  show ordB (fun p r => !dataLt r p) (.lst (keyD (digs (n + 1)))) (.lst (keyD (digs n))) = _
  unfold ordB
  rw [toPy_key, toPy_key]
  show (if alike (keyP (digs (n + 1))) (keyP (digs n)) = true ∧ SeqAt.shaped (keyP (digs (n + 1))) = true ∧ notNone (keyP (digs (n + 1))) = true then some (D.bl (!dataLt (keyP (digs n)) (keyP (digs (n + 1))))) else none) = _
  rw [if_pos ⟨alike_key _ _, shaped_key _, rfl⟩, key_lt]; rfl
end K01
end KL
namespace KL
namespace K01
open PySem L2
open Cm (tk tk_lt take_call deck_ok)
theorem take_eq : F_law_take = Cm.F_law_take := rfl
theorem deck_eq : F_law_deck = Cm.F_law_deck := rfl
/-! ### one turn: the name is given, meant, told apart -/
abbrev t_name : DEnv → SRes := setS 5 (callM F_law_name_of (aV (varM 3) (cst ([] : List Arg))))
abbrev t_same : DEnv → SRes := ifS (orM (asB (opM neD (callM F_term_name (aV (varM 3) (cst ([] : List Arg)))) (varR 5))) (asB (opM neD (callM F_named_number (aV (varM 5) (cst ([] : List Arg)))) (varR 3)))) (retS (cst (D.bl false))) SRes.nx
abbrev t_next : DEnv → SRes := ifS (asB (opM leG (lstE (callF F_law_key (aV (callM F_term_name (aV (opV addD 3 (cst (D.int 1))) (cst ([] : List Arg)))) (cst ([] : List Arg))))) (lstE (callF F_law_key (aV (varM 5) (cst ([] : List Arg))))))) (retS (cst (D.bl false))) SRes.nx
abbrev t_refs : DEnv → SRes := ifS (orM (asB (opM neD (callM F_law_refusal (aV (opM addD (cst (D.str "ka")) (varR 5)) (aV (cst D.non) (cst ([] : List Arg))))) (cst (D.str "name")))) (orM (asB (opM neD (callM F_law_refusal (aV (slM slSD (varM 5) (cst (none : Option Int)) (someM (negM (cst (D.int 1))))) (aV (cst D.non) (cst ([] : List Arg))))) (cst (D.str "name")))) (asB (opM neD (callM F_law_refusal (aV (opM addD (opV addD 5 (cst (D.str "b"))) (cst (D.str "a"))) (aV (cst D.non) (cst ([] : List Arg))))) (cst (D.str "name")))))) (retS (cst (D.bl false))) SRes.nx
theorem nm_ok {n : Nat} (hn : n < 25 ^ 100) : F_named_number [.va (.str (nm n))] = .ok (.int (n : Int)) [.no] := by
  have h := nn_ok (ds := digs n) (digs_small n) (digs_pos n) (Nat.le_trans (digs_len 99 n hn) (by omega)) (by rw [val_digs]; rfl)
  rw [val_digs] at h; exact h
theorem len_dig {n : Nat} (hn : n < 25 ^ 100) : (digs n).length ≤ 100 := digs_len 99 n hn
theorem le250 {n : Nat} (hn : n < 25 ^ 100) : n < 25 ^ 250 := Nat.lt_of_lt_of_le hn (Nat.pow_le_pow_right (by omega) (by omega))
section
variable {n : Nat} {c0 c1 c2 c4 c5 : Cell}
theorem do_name (hn : n < 25 ^ 100) (h5 : canC c5 = true) : t_name [c0, c1, c2, .va (.int (n : Int)), c4, c5] = .nx [c0, c1, c2, .va (.int (n : Int)), c4, .va (.str (nm n))] :=
  setS_ok (callV1 (varM_va rfl) (ln_ok (le250 hn))) (by simp [canSet_, h5])
theorem do_same (hn : n < 25 ^ 100) : t_same [c0, c1, c2, .va (.int (n : Int)), c4, .va (.str (nm n))] = .nx [c0, c1, c2, .va (.int (n : Int)), c4, .va (.str (nm n))] := by
  have e1 : neD (.str (nm n)) (.str (nm n)) = some (.bl false) := by rw [neD_str]; simp
  have e2 : neD (.int (n : Int)) (.int (n : Int)) = some (.bl false) := by rw [neD_int]; simp
  exact (ifS_ok (or_ok (asB_ok (opM_ok (callV1 (varM_va rfl) (tn_ok (le250 hn))) (varR_ok rfl) e1)) (asB_ok (opM_ok (callV1 (varM_va rfl) (nm_ok hn)) (varR_ok rfl) e2)))).trans rfl
theorem do_next (hn : n + 1 < 25 ^ 100) : t_next [c0, c1, c2, .va (.int (n : Int)), c4, .va (.str (nm n))] = .nx [c0, c1, c2, .va (.int (n : Int)), c4, .va (.str (nm n))] := by
  have hn' : n < 25 ^ 100 := by omega
  have k1 := key_ok (ds := digs (n + 1)) (digs_small _) (Nat.le_trans (len_dig hn) (by omega))
  have k2 := key_ok (ds := digs n) (digs_small _) (Nat.le_trans (len_dig hn') (by omega))
  exact (ifS_ok (asB_ok (opM_ok (lstE_ok (callV1f (callV1 (opV_ok rfl rfl (addN (b := 1))) (tn_ok (le250 hn))) k1)) (lstE_ok (callV1f (varM_va rfl) k2)) (key_le n)))).trans rfl
theorem ref_ka (hn : n < 25 ^ 100) : F_law_refusal [.va (.str (S (syc 0 ++ cat (digs n)))), .va .non] = .ok (.str "name") [.no, .no] := by
  refine ref_name rfl ?_
  have hl := len_dig hn
  have h := nn_bad (ds := 0 :: digs n) (fun d hd => by
    rcases List.mem_cons.mp hd with rfl | hd
    · omega
    · exact digs_small n d hd) (by simp) (by simp; omega) (fun e => by
      have hv : val (0 :: digs n) = n := by
        have : val (0 :: digs n) = val (digs n) := by unfold val; rfl
        rw [this, val_digs]
      rw [hv] at e
      have := congrArg List.length (S_inj.mp (show S (cat (digs n)) = S (cat (0 :: digs n)) from e))
      rw [cat_len, cat_len, List.length_cons] at this; omega)
  exact h
theorem ref_cut (hn : n < 25 ^ 100) : F_law_refusal [.va (.str (S ((cat (digs n)).take ((cat (digs n)).length - 1)))), .va .non] = .ok (.str "name") [.no, .no] := by
  have hl := len_dig hn
  have hp := digs_pos n
  have hc := cat_len (digs n)
  exact ref_name rfl (nn_odd (by rw [List.length_take]; omega) (by rw [List.length_take]; omega))
theorem ref_ba (hn : n < 25 ^ 100) : F_law_refusal [.va (.str (S (cat (digs n) ++ [98, 97]))), .va .non] = .ok (.str "name") [.no, .no] :=
  ref_name rfl (nn_ba (digs_small n) (Nat.le_trans (len_dig hn) (by omega)))
theorem do_refs (hn : n < 25 ^ 100) : t_refs [c0, c1, c2, .va (.int (n : Int)), c4, .va (.str (nm n))] = .nx [c0, c1, c2, .va (.int (n : Int)), c4, .va (.str (nm n))] := by
  have hl := len_dig hn
  have hc := cat_len (digs n)
  have hp := digs_pos n
  have e1 : neD (.str "name") (.str "name") = some (.bl false) := by rw [neD_str]; simp
  have a1 : addD (.str "ka") (.str (nm n)) = some (.str (S (syc 0 ++ cat (digs n)))) := addS (a := [107, 97]) (by simp; omega)
  have a2 : addD (.str (nm n)) (.str "b") = some (.str (S (cat (digs n) ++ [98]))) := addS (b := [98]) (by simp; omega)
  have a3 : addD (.str (S (cat (digs n) ++ [98]))) (.str "a") = some (.str (S (cat (digs n) ++ [98, 97]))) := by
    have := addS (a := cat (digs n) ++ [98]) (b := [97]) (by simp; omega)
    rw [List.append_assoc] at this; exact this
  have s1 : slSD (.str (nm n)) none (some (-1)) = some (.str (S ((cat (digs n)).take ((cat (digs n)).length - 1)))) := by
    show (if (nm n).length ≤ 16777216 then some (D.str (cutS (nm n) none (some (-1)))) else none) = _
    unfold nm
    rw [S_len, if_pos (by omega)]
    unfold cutS
    rw [HT.sIx_none, S_len]
    have : HT.sIx (cat (digs n)).length (cat (digs n)).length (some (-1)) = (cat (digs n)).length - 1 := by
      show (if (-1 : Int) < 0 then (-1 + ((cat (digs n)).length : Int)).toNat else min (-1 : Int).toNat (cat (digs n)).length) = _
      rw [if_pos (by decide)]; omega
    rw [this]; simp [S]
  have s2 : slM slSD (varM 5) (cst (none : Option Int)) (someM (negM (cst (D.int 1)))) [c0, c1, c2, .va (.int (n : Int)), c4, .va (.str (nm n))] = .ok (.str (S ((cat (digs n)).take ((cat (digs n)).length - 1)))) [c0, c1, c2, .va (.int (n : Int)), c4, .va (.str (nm n))] := by
    rw [slM_, varM_va (d := .str (nm n)) rfl, bind_ok_]
    show Res.opt (slSD (.str (nm n)) none (some (-1))) _ = _
    rw [s1]; rfl
  exact (ifS_ok (or_ok (asB_ok (opM_ok (callV2 (opM_ok rfl (varR_ok rfl) a1) rfl (ref_ka hn)) rfl e1)) (or_ok (asB_ok (opM_ok (callV2 s2 rfl (ref_cut hn)) rfl e1)) (asB_ok (opM_ok (callV2 (opM_ok (opV_ok rfl rfl a2) rfl a3) rfl (ref_ba hn)) rfl e1))))).trans rfl
end
/-! ### the number of a turn -/
section
variable {c0 c2 c4 c5 : Cell} {l : List Int}
theorem b1_ok {v : Nat} : ∃ v' : Nat, law_b1 [c0, .ow (l.map D.int), c2, .va (.int (v : Int)), c4, c5] = .nx [c0, .ow (l.dropLast.map D.int), c2, .va (.int (v' : Int)), c4, c5] ∧ v' < (v + 1) * 1000003 := by
  obtain ⟨t, ht, hlt⟩ := tk_lt l (m := 1000003) (by omega)
  have hm : mulD (.int (v : Int)) (.int 1000003) = some (.int ((v * 1000003 : Nat) : Int)) := by rw [mulD_r (by omega), Int.natCast_mul]; rfl
  refine ⟨v * 1000003 + t, ?_, by omega⟩
  unfold law_b1
  have hc : callM F_law_take (aO 1 (aV (cst (D.int 1000003)) (cst ([] : List Arg)))) [c0, .ow (l.map D.int), c2, .va (.int (v : Int)), c4, c5] = .ok (.int (t : Int)) [c0, .ow (l.dropLast.map D.int), c2, .va (.int (v : Int)), c4, c5] := by
    rw [take_eq, take_call (l := l) (m := 1000003) (by omega) rfl, ht]; rfl
  exact setS_ok (opM_ok (opV_ok rfl rfl hm) hc addN) rfl
theorem b2_ok {v : Nat} {c1 : Cell} : law_b2 [c0, c1, c2, .va (.int (v : Int)), c4, c5] = .nx [c0, c1, c2, .va (.int ((v * 25 : Nat) : Int)), c4, c5] := setS_ok (opV_ok rfl rfl mulN) rfl
end
abbrev t_num : DEnv → SRes := forS (range1M (callM F_law_take (aO 1 (aV (cst (D.int 9)) (cst ([] : List Arg)))))) (tgN 4) law_b1
abbrev t_pow : DEnv → SRes := ifS (asB (opM eqD (callM F_law_take (aO 1 (aV (cst (D.int 3)) (cst ([] : List Arg))))) (cst (D.int 0)))) (sq (setS 3 (cst (D.int 1))) (sq (forS (range1M (callM F_law_take (aO 1 (aV (cst (D.int 12)) (cst ([] : List Arg)))))) (tgN 2) law_b2) (setS 3 (opM addD (opV subD 3 (cst (D.int 1))) (callM F_law_take (aO 1 (aV (cst (D.int 3)) (cst ([] : List Arg))))))))) SRes.nx
theorem take_at {c0 c2 c3 c4 c5 : Cell} {l : List Int} {m : Int} (hm : 0 < m) : ∃ t : Nat, callM F_law_take (aO 1 (aV (cst (D.int m)) (cst ([] : List Arg)))) [c0, .ow (l.map D.int), c2, c3, c4, c5] = .ok (.int (t : Int)) [c0, .ow (l.dropLast.map D.int), c2, c3, c4, c5] ∧ (t : Int) < m := by
  obtain ⟨t, ht, hlt⟩ := tk_lt l hm
  exact ⟨t, by rw [take_eq, take_call (l := l) hm rfl, ht]; rfl, hlt⟩
theorem num_ok {c0 c2 c4 c5 : Cell} {l : List Int} (h4 : canC c4 = true) : ∃ (l' : List Int) (v : Nat) (d4 : Cell), t_num [c0, .ow (l.map D.int), c2, .va (.int 0), c4, c5] = .nx [c0, .ow (l'.map D.int), c2, .va (.int (v : Int)), d4, c5] ∧ v < 1000003 ^ 8 ∧ canC d4 = true := by
  obtain ⟨t, e1, hlt⟩ := take_at (c0 := c0) (c2 := c2) (c3 := .va (.int 0)) (c4 := c4) (c5 := c5) (l := l) (m := 9) (by omega)
  obtain ⟨Δ', e2, l', v, d4, hΔ, hv, h4'⟩ := forM_rng (tgt := tgN 4) (body := law_b1) (lo := 0) (n := t) (Δ := [c0, .ow (l.dropLast.map D.int), c2, .va (.int 0), c4, c5])
    (P := fun i Δ => ∃ (l' : List Int) (v : Nat) (d4 : Cell), Δ = [c0, .ow (l'.map D.int), c2, .va (.int (v : Int)), d4, c5] ∧ v < 1000003 ^ i ∧ canC d4 = true) ⟨_, 0, c4, rfl, by simp, h4⟩ fun i Δ hi ⟨l', v, d4, hΔ, hv, h4'⟩ => by
      subst hΔ
      obtain ⟨v', hb, hv'⟩ := b1_ok (c0 := c0) (c2 := c2) (c4 := .va (.int (0 + (i : Int)))) (c5 := c5) (l := l') (v := v)
      refine ⟨_, _, tgN_ (by simp [canSet_, h4']), hb, _, v', _, rfl, ?_, rfl⟩
      rw [Nat.pow_succ]
      exact Nat.lt_of_lt_of_le hv' (Nat.mul_le_mul_right _ hv)
  refine ⟨l', v, d4, ?_, Nat.lt_of_lt_of_le hv (Nat.pow_le_pow_right (by omega) (by omega)), h4'⟩
  unfold t_num
  rw [forS_, range1_, e1, bind_ok_, rng1_nat (by unfold lim62; omega), s_ok_, e2, hΔ]
theorem pow_ok {c0 c2 c4 c5 : Cell} {l : List Int} {v : Nat} (h2 : canC c2 = true) (hv : v < 25 ^ 99) : ∃ (l' : List Int) (v' : Nat) (d2 : Cell), t_pow [c0, .ow (l.map D.int), c2, .va (.int (v : Int)), c4, c5] = .nx [c0, .ow (l'.map D.int), d2, .va (.int (v' : Int)), c4, c5] ∧ v' < 25 ^ 99 ∧ canC d2 = true := by
  obtain ⟨t, e1, hlt⟩ := take_at (c0 := c0) (c2 := c2) (c3 := .va (.int (v : Int))) (c4 := c4) (c5 := c5) (l := l) (m := 3) (by omega)
  have et : asB (opM eqD (callM F_law_take (aO 1 (aV (cst (D.int 3)) (cst ([] : List Arg))))) (cst (D.int 0))) [c0, .ow (l.map D.int), c2, .va (.int (v : Int)), c4, c5] = .ok (decide ((t : Int) = 0)) [c0, .ow (l.dropLast.map D.int), c2, .va (.int (v : Int)), c4, c5] := asB_ok (opM_ok e1 rfl eqD_int)
  by_cases h0 : (t : Int) = 0
  · rw [decide_eq_true h0] at et
    obtain ⟨k, e2, hk⟩ := take_at (c0 := c0) (c2 := c2) (c3 := .va (.int 1)) (c4 := c4) (c5 := c5) (l := l.dropLast) (m := 12) (by omega)
    obtain ⟨Δ', e3, d2, hΔ, h2'⟩ := forM_rng (tgt := tgN 2) (body := law_b2) (lo := 0) (n := k) (Δ := [c0, .ow (l.dropLast.dropLast.map D.int), c2, .va (.int 1), c4, c5])
      (P := fun i Δ => ∃ d2 : Cell, Δ = [c0, .ow (l.dropLast.dropLast.map D.int), d2, .va (.int ((25 ^ i : Nat) : Int)), c4, c5] ∧ canC d2 = true) ⟨c2, rfl, h2⟩ fun i Δ hi ⟨d2, hΔ, h2'⟩ => by
        subst hΔ
        refine ⟨_, _, tgN_ (by simp [canSet_, h2']), b2_ok, .va (.int (0 + (i : Int))), ?_, rfl⟩
        rw [Nat.pow_succ]
    obtain ⟨u, e4, hu⟩ := take_at (c0 := c0) (c2 := d2) (c3 := .va (.int ((25 ^ k : Nat) : Int))) (c4 := c4) (c5 := c5) (l := l.dropLast.dropLast) (m := 3) (by omega)
    have hpos : 0 < 25 ^ k := Nat.pow_pos (by omega)
    have hk11 : 25 ^ k ≤ 25 ^ 11 := Nat.pow_le_pow_right (by omega) (by omega)
    have hs : subD (.int ((25 ^ k : Nat) : Int)) (.int 1) = some (.int ((25 ^ k - 1 : Nat) : Int)) := by rw [subD_int]; congr 2; omega
    refine ⟨l.dropLast.dropLast.dropLast, 25 ^ k - 1 + u, d2, ?_, by
      have : (25 : Nat) ^ 11 + 3 < 25 ^ 99 := by decide
      omega, h2'⟩
    refine (ifS_ok et).trans ?_
    rw [if_pos rfl, sq_, setS_ok (d := .int 1) (Δ1 := [c0, .ow (l.dropLast.map D.int), c2, .va (.int (v : Int)), c4, c5]) rfl rfl, seq_nx]
    show (sq _ _) [c0, .ow (l.dropLast.map D.int), c2, .va (.int 1), c4, c5] = _
    rw [sq_, forS_, range1_, e2, bind_ok_, rng1_nat (by unfold lim62; omega), s_ok_, e3, seq_nx, hΔ]
    exact setS_ok (opM_ok (opV_ok rfl rfl hs) e4 addN) rfl
  · rw [decide_eq_false h0] at et
    exact ⟨l.dropLast, v, c2, (ifS_ok et).trans rfl, hv, h2⟩
theorem turn_eq : law_b3 = sq (setS 3 (cst (D.int 0))) (sq t_num (sq t_pow (sq t_name (sq t_same (sq t_next t_refs))))) := rfl
theorem turn_ok {c0 c2 c3 c4 c5 : Cell} {l : List Int} (h2 : canC c2 = true) (h3 : canC c3 = true) (h4 : canC c4 = true) (h5 : canC c5 = true) :
    ∃ (l' : List Int) (d2 d3 d4 d5 : Cell), law_b3 [c0, .ow (l.map D.int), c2, c3, c4, c5] = .nx [c0, .ow (l'.map D.int), d2, d3, d4, d5] ∧ canC d2 = true ∧ canC d3 = true ∧ canC d4 = true ∧ canC d5 = true := by
  obtain ⟨l1, v, d4, e1, hv, g4⟩ := num_ok (c0 := c0) (c2 := c2) (c5 := c5) (l := l) h4
  obtain ⟨l2, v', d2, e2, hv', g2⟩ := pow_ok (c0 := c0) (c4 := d4) (c5 := c5) (l := l1) (v := v) h2 (Nat.lt_trans hv (by decide))
  have hb : v' + 1 < 25 ^ 100 := by
    have : (25 : Nat) ^ 99 + 1 ≤ 25 ^ 100 := by decide
    omega
  refine ⟨l2, d2, .va (.int (v' : Int)), d4, .va (.str (nm v')), ?_, g2, rfl, g4, rfl⟩
  rw [turn_eq, sq_, setS_ok (d := .int 0) (Δ1 := [c0, .ow (l.map D.int), c2, c3, c4, c5]) rfl (by simp [canSet_, h3]), seq_nx]
  show (sq _ _) [c0, .ow (l.map D.int), c2, .va (.int 0), c4, c5] = _
  rw [sq_, e1, seq_nx, sq_, e2, seq_nx, sq_, do_name (by omega) h5, seq_nx, sq_, do_same (by omega), seq_nx, sq_, do_next hb, seq_nx]
  exact do_refs (by omega)
/-! ### the law -/
theorem bad_num (t : Nat) (ht : (t : Int) < 4) : ∃ y, ixD (.lst [.int (-1), .bl true, .str "ka", .non]) (.int (t : Int)) = some y ∧ F_law_refusal [.va .non, .va y] = .ok (.str "number") [.no, .no] := by
  match t, ht with
  | 0, _ => exact ⟨_, rfl, ref_num tn_neg⟩
  | 1, _ => exact ⟨_, rfl, ref_num tn_bool⟩
  | 2, _ => exact ⟨_, rfl, ref_num tn_str⟩
  | 3, _ => exact ⟨_, rfl, ref_num tn_non⟩
  | t + 4, h => exact absurd h (by omega)
theorem bad_name (t : Nat) (ht : (t : Int) < 4) : ∃ y, ixD (.lst [.str "", .str "A", .int 7, .tup [.str "ka"]]) (.int (t : Int)) = some y ∧ F_law_refusal [.va y, .va .non] = .ok (.str "name") [.no, .no] := by
  match t, ht with
  | 0, _ => exact ⟨_, rfl, ref_name rfl nn_empty⟩
  | 1, _ => exact ⟨_, rfl, ref_name rfl (nn_odd (l := [65]) (by decide) (by decide))⟩
  | 2, _ => exact ⟨_, rfl, ref_name rfl nn_seven⟩
  | 3, _ => exact ⟨_, rfl, ref_name rfl nn_tup⟩
  | t + 4, h => exact absurd h (by omega)
theorem law_true : ∀ ns : List Int, ns.length ≤ 63 → ∃ cs, F_law [.va (.lsx (ns.map D.int))] = .ok (.bl true) cs := by
  intro ns _
  obtain ⟨l, _, hdk⟩ := deck_ok ns 4 30 (by omega) (by omega)
  have e1 : setOS 1 (callF F_law_deck (aV (varM 0) (aV (cst (D.int 4)) (aV (cst (D.int 30)) (cst ([] : List Arg)))))) [.va (.lsx (ns.map D.int)), .no, .no, .no, .no, .no] = .nx [.va (.lsx (ns.map D.int)), .ow (l.map D.int), .no, .no, .no, .no] := by
    have hc : callF F_law_deck (aV (varM 0) (aV (cst (D.int 4)) (aV (cst (D.int 30)) (cst ([] : List Arg))))) [.va (.lsx (ns.map D.int)), .no, .no, .no, .no, .no] = .ok (l.map D.int) [.va (.lsx (ns.map D.int)), .no, .no, .no, .no, .no] := by
      show FRes.toF [Sum.inl (D.lsx (ns.map D.int)), Sum.inl (D.int 4), Sum.inl (D.int 30)] _ (F_law_deck [.va (.lsx (ns.map D.int)), .va (.int 4), .va (.int 30)]) = _
      rw [deck_eq, show Cm.F_law_deck [.va (.lsx (ns.map D.int)), .va (.int 4), .va (.int 30)] = FRes.fr (l.map D.int) [.no, .no, .no] from hdk]; rfl
    rw [setOS_, hc]; rfl
  obtain ⟨Δ', e2, l', c2, c3, c4, c5, hΔ, h2, h3, h4, h5⟩ := forM_rng (tgt := tgN 2) (body := law_b3) (lo := 0) (n := 8) (Δ := [.va (.lsx (ns.map D.int)), .ow (l.map D.int), .no, .no, .no, .no])
    (P := fun _ Δ => ∃ (l' : List Int) (c2 c3 c4 c5 : Cell), Δ = [.va (.lsx (ns.map D.int)), .ow (l'.map D.int), c2, c3, c4, c5] ∧ canC c2 = true ∧ canC c3 = true ∧ canC c4 = true ∧ canC c5 = true) ⟨l, _, _, _, _, rfl, rfl, rfl, rfl, rfl⟩ fun i Δ hi ⟨l', c2, c3, c4, c5, hΔ, h2, h3, h4, h5⟩ => by
      subst hΔ
      obtain ⟨l2, d2, d3, d4, d5, hb, g2, g3, g4, g5⟩ := turn_ok (c0 := .va (.lsx (ns.map D.int))) (c2 := .va (.int (0 + (i : Int)))) (l := l') rfl h3 h4 h5
      exact ⟨_, _, tgN_ (by simp [canSet_, h2]), hb, _, _, _, _, _, rfl, g2, g3, g4, g5⟩
  have hf : forS (range1M (cst (D.int 8))) (tgN 2) law_b3 [.va (.lsx (ns.map D.int)), .ow (l.map D.int), .no, .no, .no, .no] = .nx [.va (.lsx (ns.map D.int)), .ow (l'.map D.int), c2, c3, c4, c5] := by
    rw [forS_, range1_, bind_ok_, show D.int 8 = D.int ((8 : Nat) : Int) from rfl, rng1_nat (by unfold lim62; omega), s_ok_, e2, hΔ]
  obtain ⟨t, e3, ht⟩ := take_at (c0 := .va (.lsx (ns.map D.int))) (c2 := c2) (c3 := c3) (c4 := c4) (c5 := c5) (l := l') (m := 4) (by omega)
  obtain ⟨u, e4, hu⟩ := take_at (c0 := .va (.lsx (ns.map D.int))) (c2 := c2) (c3 := c3) (c4 := c4) (c5 := c5) (l := l'.dropLast) (m := 4) (by omega)
  obtain ⟨y, y1, y2⟩ := bad_num t ht
  obtain ⟨z, z1, z2⟩ := bad_name u hu
  have q1 : eqD (.str "number") (.str "number") = some (.bl true) := by rw [eqD_str]; simp
  have q2 : eqD (.str "name") (.str "name") = some (.bl true) := by rw [eqD_str]; simp
  have hs : ([.va (.lsx (ns.map D.int))] : DEnv) ++ List.replicate (6 - 1) .no = [.va (.lsx (ns.map D.int)), .no, .no, .no, .no, .no] := rfl
  refine Exists.intro (kpD 1 [.va (.lsx (ns.map D.int)), .ow (l'.dropLast.dropLast.map D.int), c2, c3, c4, c5]) ?_
  unfold F_law m_law
  rw [bodyF_, hs, sq_, e1, seq_nx, sq_, hf, seq_nx]
  exact congrArg (SRes.fin 1) (retS_ok (andV_ok (opM_ok (callV2 rfl (opM_ok rfl e3 y1) y2) rfl q1) (opM_ok (callV2 (opM_ok rfl e4 z1) rfl z2) rfl q2)))
end K01
end KL
open PySem PySem.W PyProof.Rows in
set_option maxRecDepth 100000 in
set_option maxHeartbeats 0 in
theorem PySem.Challenge.cw_kinwork_k01_names_of_numbers_holds : PySem.Challenge.rw_kinwork_k01_names_of_numbers.Holds := by
  w_on; o_law; k_head; (case hw => w_witness2)
  k_fill
  refine L2.walk_of (l := PySem.Challenge.rw_kinwork_k01_names_of_numbers) (n := 63) (k := 4) (x := "script") (CX := fun w => L2.CX (PySem.Challenge.rw_kinwork_k01_names_of_numbers).prog w) (sp := fun w => KL.spTop _) rfl (by decide) rfl ⟨rfl, by decide, by decide⟩ (fun w h Y => PySem.W.kIn_of Y) ?F (fun _ _ a xs hl _ hS => ⟨a, xs, rfl, hS, hl, fun _ => rfl⟩) (fun _ _ _ _ _ z => by obtain ⟨_, _, _, _, _, _, _, _, _, _, _, _, z⟩ := z; exact z.elim)
  case F =>
    intro w mg fa h KX G hmg
    refine' KL.K01.all_mk KX G hmg ?z_abs ?z_bool ?z_int ?z_isinstance ?z_len ?z_range ?z_str ?a_term_name ?l_term_name ?c_term_name ?k_term_name ?a_named_number ?l_named_number ?c_named_number ?k_named_number ?a_law_deck ?l_law_deck ?c_law_deck ?k_law_deck ?a_law_take ?l_law_take ?c_law_take ?k_law_take ?a_law_name_of ?l_law_name_of ?c_law_name_of ?k_law_name_of ?a_law_refusal ?l_law_refusal ?c_law_refusal ?k_law_refusal ?a_law_key ?l_law_key ?c_law_key ?k_law_key ?a_law ?l_law ?c_law ?k_law ?gS ?opq ?gC_InvalidBook ?xL_InvalidBook ?bm_ok_InvalidBook ?xi_InvalidBook ?sa_InvalidBook ?ga_InvalidBook ?gg_InvalidBook ?nb_InvalidBook ?iC_InvalidBook ?tI_InvalidBook ?kC_InvalidBook ?eC_InvalidBook ?eV_InvalidBook ?sf_InvalidBook ?tC_InvalidBook ?hC_InvalidBook ?su_InvalidBook ?lI_InvalidBook ?cI_InvalidBook ?lc_InvalidBook ?v2_InvalidBook ?fl_InvalidBook ?ll_InvalidBook ?is_InvalidBook ?ss_InvalidBook ?tp ?at_SYLLABLES ?lt_SYLLABLES ?ys_SYLLABLES ?sz_SYLLABLES KL.K01.law_true
    (case z_abs => k_is)
    (case z_bool => k_is)
    (case z_int => k_is)
    (case z_isinstance => k_is)
    (case z_len => k_is)
    (case z_range => k_is)
    (case z_str => k_is)
    (case a_term_name => k_is)
    (case l_term_name => k_is)
    (case c_term_name => k_is)
    (case k_term_name => k_is)
    (case a_named_number => k_is)
    (case l_named_number => k_is)
    (case c_named_number => k_is)
    (case k_named_number => k_is)
    (case a_law_deck => k_is)
    (case l_law_deck => k_is)
    (case c_law_deck => k_is)
    (case k_law_deck => k_is)
    (case a_law_take => k_is)
    (case l_law_take => k_is)
    (case c_law_take => k_is)
    (case k_law_take => k_is)
    (case a_law_name_of => k_is)
    (case l_law_name_of => k_is)
    (case c_law_name_of => k_is)
    (case k_law_name_of => k_is)
    (case a_law_refusal => k_is)
    (case l_law_refusal => k_is)
    (case c_law_refusal => k_is)
    (case k_law_refusal => k_is)
    (case a_law_key => k_is)
    (case l_law_key => k_is)
    (case c_law_key => k_is)
    (case k_law_key => k_is)
    (case a_law => k_is)
    (case l_law => k_is)
    (case c_law => k_is)
    (case k_law => k_is)
    (case gS => k_is)
    (case opq => k_is)
    (case gC_InvalidBook => k_is)
    (case xL_InvalidBook => k_is)
    (case bm_ok_InvalidBook => first | rfl | decide +kernel)
    (case xi_InvalidBook => first | kx_is | kernel_rfl | k_is)
    (case sa_InvalidBook => k_is)
    (case ga_InvalidBook => k_is)
    (case gg_InvalidBook => k_is)
    (case nb_InvalidBook => k_is)
    (case iC_InvalidBook => k_is)
    (case tI_InvalidBook => k_is)
    (case kC_InvalidBook => k_is)
    (case eC_InvalidBook => k_is)
    (case eV_InvalidBook => k_is)
    (case sf_InvalidBook => k_is)
    (case tC_InvalidBook => k_is)
    (case hC_InvalidBook => k_is)
    (case su_InvalidBook => first | ks_is | kernel_rfl | k_is)
    (case lI_InvalidBook => k_is)
    (case cI_InvalidBook => k_is)
    (case lc_InvalidBook => k_is)
    (case v2_InvalidBook => rfl)
    (case fl_InvalidBook => first | rfl | decide +kernel)
    (case ll_InvalidBook => k_is)
    (case is_InvalidBook => k_is)
    (case ss_InvalidBook => first | rfl | k_is)
    (case tp => first | rfl | decide +kernel)
    (case at_SYLLABLES => k_is)
    (case lt_SYLLABLES => k_is)
    (case ys_SYLLABLES => first | rfl | decide +kernel)
    (case sz_SYLLABLES => first | rfl | decide +kernel)
#print axioms PySem.Challenge.cw_kinwork_k01_names_of_numbers_holds
