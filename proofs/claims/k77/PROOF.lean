import PyProof.Rows.All
import Wide.All
import OpenK.AllK
import Wide.FinOn
import HandS.ForMost
import HandS.Exc
import HandS.TryOnly
import HandS.TryMany
import HandS.ExcOwn
import HandS.ExcField
import HandS.IsInst
import HandS.Strs
import HandS.Replace
import HandS.Text
import KE.DataCmp
import HandS.WordsExc
import KE.KExcSuper
import KE.OsGo
import HandS.Style
import HandS.SortInts
import HandS.WideBits
import HandS.Zip
import KE.SortData
import KE.DataMinMax
import PyProof.Draws
import KE.GoesZip
import PyProof.EnumMake
import HandS.More
import HandS.Codes
import KE.RegKSuper
import KE.KExcLine
import PySem.Challenge.RW_kinwork_k77_whole_sums
set_option Elab.async false
set_option linter.all false
set_option maxRecDepth 100000
set_option maxHeartbeats 8000000
/-! KL, part a: deep values, what stands for them in a heap, abstract frames, what an evaluation leaves. -/
namespace KL
open PySem L2

/-- a value as data: no addresses but those of classes -/
inductive D where
  | non | bl (b : Bool) | int (i : Int) | str (x : Str)
  | lst (xs : List D) | tup (xs : List D)
  | lsx (xs : List D)
  | dk (kvs : List (Key × D)) | dt (kvs : List (List Key × D))
  | obj (x : Str) (fs : List (Str × D))
  | fn (a : Addr)
  | unk
deriving Inhabited

/-- all that is tracked stays -/
def Ex (H H' : Hp) : Prop := ∀ a o, H a = some o → H' a = some o
theorem Ex.refl (H : Hp) : Ex H H := fun _ _ h => h
theorem Ex.trans {H H1 H2 : Hp} (a : Ex H H1) (b : Ex H1 H2) : Ex H H2 := fun x o h => b x o (a x o h)
theorem Ex.new {H : Hp} {p : Addr} {o : HO} (h : H p = none) : Ex H (upd H p o) := fun a u e => by
  rw [upd_ne (ne_of_none e h)]; exact e
theorem Ex.rd {H H' : Hp} {a : Addr} {u : HO} (e : Ex H H') (h : Rd H a u) : Rd H' a u := by
  rcases h with h | ⟨o, h⟩
  · exact .inl (e a _ h)
  · exact .inr ⟨o, e a _ h⟩
theorem Ex.sl {K : PySem.W.Frag} {H H' : Hp} {a : Addr} {xs : List V} (e : Ex H H') (h : SqL K H a xs) : SqL K H' a xs := by
  rcases h with h | h
  · exact .inl (e.rd h)
  · exact .inr h
theorem Ex.st {K : PySem.W.Frag} {H H' : Hp} {a : Addr} {xs : List V} (e : Ex H H') (h : SqT K H a xs) : SqT K H' a xs := by
  rcases h with h | h
  · exact .inl (e.rd h)
  · exact .inr h
theorem Ex.none {H H' : Hp} {a : Addr} (e : Ex H H') (h : H' a = Option.none) : H a = Option.none := by
  cases q : H a with
  | none => rfl
  | some o => rw [e a o q] at h; cases h

/-- the value v, in the heap F, is the data d -/
inductive Rep (K : PySem.W.Frag) (F : Hp) : V → D → Prop
  | non : Rep K F .non .non
  | bl (b : Bool) : Rep K F (.bl b) (.bl b)
  | int (i : Int) : Rep K F (.int i) (.int i)
  | str (x : Str) : Rep K F (.str x) (.str x)
  | lst {a : Addr} {vs : List V} {ds : List D} : F a = some (.lst vs) → vs.length = ds.length → (∀ (i : Nat) v d, vs[i]? = some v → ds[i]? = some d → Rep K F v d) → Rep K F (.ref a) (.lst ds)
  | lsx {a : Addr} {vs : List V} {ds : List D} : SqL K F a vs → vs.length = ds.length → (∀ (i : Nat) v d, vs[i]? = some v → ds[i]? = some d → Rep K F v d) → Rep K F (.ref a) (.lsx ds)
  | tup {a : Addr} {vs : List V} {ds : List D} : SqT K F a vs → vs.length = ds.length → (∀ (i : Nat) v d, vs[i]? = some v → ds[i]? = some d → Rep K F v d) → Rep K F (.ref a) (.tup ds)
  | dk {a : Addr} {kvs : List (Key × V)} {kds : List (Key × D)} : Rd F a (.dK kvs) → kvs.length = kds.length →
      (∀ (i : Nat) p q, kvs[i]? = some p → kds[i]? = some q → p.1 = q.1) → (∀ (i : Nat) p q, kvs[i]? = some p → kds[i]? = some q → Rep K F p.2 q.2) → Rep K F (.ref a) (.dk kds)
  | obj {a C dx : Addr} {x : Str} {fvs : List (Str × V)} {fds : List (Str × D)} : PySem.W.nsIn K mainGlobals x = some (some (.ref C)) → F a = some (.ins C dx fvs) → fvs.length = fds.length →
      (∀ (i : Nat) p q, fvs[i]? = some p → fds[i]? = some q → p.1 = q.1) → (∀ (i : Nat) p q, fvs[i]? = some p → fds[i]? = some q → Rep K F p.2 q.2) → Rep K F (.ref a) (.obj x fds)
  | unk (v : V) : Rep K F v .unk
  | fn (a : Addr) : Rep K F (.ref a) (.fn a)
def Reps (K : PySem.W.Frag) (F : Hp) (vs : List V) (ds : List D) : Prop := vs.length = ds.length ∧ ∀ (i : Nat) v d, vs[i]? = some v → ds[i]? = some d → Rep K F v d
section
variable {K : PySem.W.Frag} {F F' H : Hp} {v : V} {d : D} {vs ws : List V} {ds es : List D}
theorem Rep.mono (e : Ex F F') (h : Rep K F v d) : Rep K F' v d := by
  induction h with
  | non => exact .non
  | bl b => exact .bl b
  | int i => exact .int i
  | str x => exact .str x
  | lst h1 h2 h3 ih => exact .lst (e _ _ h1) h2 ih
  | lsx h1 h2 h3 ih => exact .lsx (e.sl h1) h2 ih
  | tup h1 h2 h3 ih => exact .tup (e.st h1) h2 ih
  | dk h1 h2 h3 h4 ih => exact .dk (e.rd h1) h2 h3 ih
  | obj h0 h1 h2 h3 h4 ih => exact .obj h0 (e _ _ h1) h2 h3 ih
  | unk v => exact .unk v
  | fn a => exact .fn a
theorem Reps.mono (e : Ex F F') (h : Reps K F vs ds) : Reps K F' vs ds := ⟨h.1, fun i v d h1 h2 => (h.2 i v d h1 h2).mono e⟩
theorem Reps.nil : Reps K F [] [] := ⟨rfl, fun i v d h => by simp at h⟩
theorem Reps.cons (h : Rep K F v d) (hs : Reps K F vs ds) : Reps K F (v :: vs) (d :: ds) := by
  refine ⟨by simp [hs.1], fun i w e h1 h2 => ?_⟩
  cases i with
  | zero => simp at h1 h2; subst h1; subst h2; exact h
  | succ i => exact hs.2 i w e (by simpa using h1) (by simpa using h2)
theorem Reps.cons_inv {e : D} (h : Reps K F vs (e :: ds)) : ∃ w ws, vs = w :: ws ∧ Rep K F w e ∧ Reps K F ws ds := by
  cases vs with
  | nil => simp [Reps] at h
  | cons w ws =>
    refine ⟨w, ws, rfl, h.2 0 w e rfl rfl, ?_, fun i v d h1 h2 => h.2 (i + 1) v d (by simpa using h1) (by simpa using h2)⟩
    have := h.1; simpa using this
theorem Reps.nil_inv (h : Reps K F vs []) : vs = [] := by
  have := h.1; simpa using this
theorem Reps.append (h1 : Reps K F vs ds) (h2 : Reps K F ws es) : Reps K F (vs ++ ws) (ds ++ es) := by
  refine ⟨by simp [h1.1, h2.1], fun i v d e1 e2 => ?_⟩
  by_cases hi : i < vs.length
  · rw [List.getElem?_append_left hi] at e1
    rw [List.getElem?_append_left (by rw [← h1.1]; exact hi)] at e2
    exact h1.2 i v d e1 e2
  · rw [List.getElem?_append_right (by omega)] at e1
    rw [List.getElem?_append_right (by have := h1.1; omega)] at e2
    have e3 := h1.1
    rw [e3] at e1
    exact h2.2 _ v d e1 e2
theorem Reps.get (h : Reps K F vs ds) {i : Nat} {d : D} (e : ds[i]? = some d) : ∃ v, vs[i]? = some v ∧ Rep K F v d := by
  have hi := (List.getElem?_eq_some_iff.mp e).1
  have hv : i < vs.length := by rw [h.1]; exact hi
  exact ⟨vs[i], List.getElem?_eq_getElem hv, h.2 i _ d (List.getElem?_eq_getElem hv) e⟩
theorem Reps.set (h : Reps K F vs ds) (i : Nat) (hv : Rep K F v d) : Reps K F (vs.set i v) (ds.set i d) := by
  refine ⟨by simp [h.1], fun j w e h1 h2 => ?_⟩
  by_cases hj : i = j
  · subst hj
    by_cases hi : i < vs.length
    · rw [List.getElem?_set_self hi] at h1
      rw [List.getElem?_set_self (by rw [← h.1]; exact hi)] at h2
      cases h1; cases h2; exact hv
    · rw [List.getElem?_eq_none (by simp; omega)] at h1; cases h1
  · rw [List.getElem?_set_ne hj] at h1 h2
    exact h.2 j w e h1 h2
theorem Reps.take (n : Nat) (h : Reps K F vs ds) : Reps K F (vs.take n) (ds.take n) := by
  refine ⟨by simp [h.1], fun i v d h1 h2 => ?_⟩
  rw [List.getElem?_take] at h1 h2
  split at h1
  · rename_i hi; rw [if_pos hi] at h2; exact h.2 i v d h1 h2
  · cases h1
theorem Reps.drop (n : Nat) (h : Reps K F vs ds) : Reps K F (vs.drop n) (ds.drop n) := by
  refine ⟨by simp [h.1], fun i v d h1 h2 => ?_⟩
  rw [List.getElem?_drop] at h1 h2
  exact h.2 _ v d h1 h2
theorem Reps.dropLast (h : Reps K F vs ds) : Reps K F vs.dropLast ds.dropLast := by
  have := h.take (vs.length - 1)
  rw [List.dropLast_eq_take, List.dropLast_eq_take, ← h.1]
  exact this
theorem Reps.reverse (h : Reps K F vs ds) : Reps K F vs.reverse ds.reverse := by
  refine ⟨by simp [h.1], fun i v d h1 h2 => ?_⟩
  have hi : i < vs.length := by
    have := (List.getElem?_eq_some_iff.mp h1).1; simpa using this
  rw [List.getElem?_reverse hi] at h1
  rw [List.getElem?_reverse (by rw [← h.1]; exact hi)] at h2
  have e3 := h.1
  rw [e3] at h1
  exact h.2 _ v d h1 h2
theorem Reps.map {α : Type} {l : List α} {f : α → V} {g : α → D} (h : ∀ x ∈ l, Rep K F (f x) (g x)) : Reps K F (l.map f) (l.map g) := by
  induction l with
  | nil => exact .nil
  | cons a l ih => exact .cons (h a (by simp)) (ih fun x hx => h x (by simp [hx]))
/-- an item read by its value -/
theorem rep_ref_lst (h : Rep K F v (.lst ds)) : ∃ a vs, v = .ref a ∧ F a = some (.lst vs) ∧ Reps K F vs ds := by
  cases h with
  | lst h1 h2 h3 => exact ⟨_, _, rfl, h1, h2, h3⟩
theorem rep_ref_lsx (h : Rep K F v (.lsx ds)) : ∃ a vs, v = .ref a ∧ SqL K F a vs ∧ Reps K F vs ds := by
  cases h with
  | lsx h1 h2 h3 => exact ⟨_, _, rfl, h1, h2, h3⟩
theorem rep_ref_tup (h : Rep K F v (.tup ds)) : ∃ a vs, v = .ref a ∧ SqT K F a vs ∧ Reps K F vs ds := by
  cases h with
  | tup h1 h2 h3 => exact ⟨_, _, rfl, h1, h2, h3⟩
end

/-! ### slots -/
/-- what is known of a slot: nothing; frozen data; an own list (mine, or handed in by the caller); an exception that is handled -/
inductive Exc where
  | mk (cls : Str) (fs : List (Str × D))
deriving Inhabited
/-- what is owned: a list, an object that is being made (some of its fields) -/
inductive OwnV where
  | l (xs : List D) | s (x : Str) (fs : List (Str × D))
deriving Inhabited
inductive Cell where
  | no | va (d : D) | owv (o : OwnV) | pav (o : OwnV) | xc (x : Exc)
deriving Inhabited
abbrev Cell.ow (xs : List D) : Cell := .owv (.l xs)
abbrev Cell.pa (xs : List D) : Cell := .pav (.l xs)
abbrev Cell.so (x : Str) (fs : List (Str × D)) : Cell := .pav (.s x fs)
def Cell.own? : Cell → Option OwnV
  | .owv o => some o
  | .pav o => some o
  | _ => none
def Cell.list? : Cell → Option (List D)
  | .owv (.l xs) => some xs
  | .pav (.l xs) => some xs
  | _ => none
theorem Cell.own_of_list {c : Cell} {xs : List D} (h : c.list? = some xs) : c.own? = some (.l xs) := by
  cases c with
  | owv o => cases o with
    | l ys => cases h; rfl
    | s x fs => cases h
  | pav o => cases o with
    | l ys => cases h; rfl
    | s x fs => cases h
  | _ => cases h
/-- the object of the heap is that own thing -/
inductive OwnOk (K : PySem.W.Frag) (F : Hp) : HO → OwnV → Prop
  | l {vs : List V} {xs : List D} : Reps K F vs xs → OwnOk K F (.lst vs) (.l xs)
  | s {C dx : Addr} {x : Str} {fvs : List (Str × V)} {fds : List (Str × D)} : PySem.W.nsIn K mainGlobals x = some (some (.ref C)) → fvs.length = fds.length → (∀ (i : Nat) p q, fvs[i]? = some p → fds[i]? = some q → p.1 = q.1) →
      (∀ (i : Nat) p q, fvs[i]? = some p → fds[i]? = some q → Rep K F p.2 q.2) → OwnOk K F (.ins C dx fvs) (.s x fds)
theorem OwnOk.mono {K : PySem.W.Frag} {F F' : Hp} {u : HO} {o : OwnV} (e : Ex F F') (h : OwnOk K F u o) : OwnOk K F' u o := by
  cases h with
  | l h => exact .l (h.mono e)
  | s h1 h2 h3 h4 => exact .s h1 h2 h3 fun i p q a b => (h4 i p q a b).mono e
theorem OwnOk.lst {K : PySem.W.Frag} {F : Hp} {u : HO} {xs : List D} (h : OwnOk K F u (.l xs)) : ∃ vs, u = .lst vs ∧ Reps K F vs xs := by
  cases h with
  | l h => exact ⟨_, rfl, h⟩
abbrev DEnv := List Cell
/-- what the layer leans on: the written part, the classes of exceptions by name, the exception that is handled (its address, class, dict) -/
structure Lx where
  K : PySem.W.Frag
  ct : Str → Option Addr
  xa : Option (Addr × Value × Option Addr)
/-- an exception as data -/
def XOk (L : Lx) (F : Hp) (c : Value) (dd : Option Addr) : Exc → Prop
  | .mk cls fs => ∃ C d fvs, c = .ref C ∧ L.ct cls = some C ∧ dd = some d ∧ F d = some (.xd fvs) ∧ fvs.length = fs.length ∧
      (∀ (i : Nat) p q, fvs[i]? = some p → fs[i]? = some q → p.1 = q.1) ∧ (∀ (i : Nat) p q, fvs[i]? = some p → fs[i]? = some q → Rep L.K F p.2 q.2)
theorem XOk.mono {L : Lx} {F F' : Hp} {c : Value} {dd : Option Addr} {x : Exc} (e : Ex F F') (h : XOk L F c dd x) : XOk L F' c dd x := by
  cases x with
  | mk cls fs =>
    obtain ⟨C, d, fvs, h1, h2, h3, h4, h5, h6, h7⟩ := h
    exact ⟨C, d, fvs, h1, h2, h3, e _ _ h4, h5, h6, fun i p q a b => (h7 i p q a b).mono e⟩
def CellOk (L : Lx) (F H : Hp) (o : Option V) : Cell → Prop
  | .no => True
  | .va d => ∃ v, o = some v ∧ Rep L.K F v d
  | .owv w => ∃ a u, o = some (.ref a) ∧ H a = some u ∧ F a = none ∧ OwnOk L.K F u w
  | .pav w => ∃ a u, o = some (.ref a) ∧ H a = some u ∧ F a = none ∧ OwnOk L.K F u w
  | .xc x => ∃ a c dd, L.xa = some (a, c, dd) ∧ o = some (.ref a) ∧ XOk L F c dd x
def slot (σ : St) (i : Nat) : Option V := (σ[i]?).join
theorem slot_set {σ : St} {i j : Nat} {v : V} (hi : i < σ.length) : slot (σ.set i (some v)) j = if j = i then some v else slot σ j := by
  unfold slot
  by_cases h : j = i
  · subst h; rw [if_pos rfl, List.getElem?_set_self hi]; rfl
  · rw [if_neg h, List.getElem?_set_ne (Ne.symm h)]
theorem slot_some {σ : St} {i : Nat} {v : V} (h : slot σ i = some v) : σ[i]? = some (some v) := by
  unfold slot at h
  cases q : σ[i]? with
  | none => rw [q] at h; cases h
  | some o => rw [q] at h; cases o with
    | none => cases h
    | some w => cases h; rfl
/-- a is the list of an own slot -/
def Own (σ : St) (Δ : DEnv) (a : Addr) : Prop := ∃ i c w, Δ[i]? = some c ∧ c.own? = some w ∧ slot σ i = some (.ref a)
structure EnvOk (L : Lx) (F : Hp) (σ : St) (Δ : DEnv) (H : Hp) : Prop where
  ex : Ex F H
  len : σ.length = Δ.length
  cells : ∀ (i : Nat) c, Δ[i]? = some c → CellOk L F H (slot σ i) c
  apart : ∀ (i j : Nat) c c' xs ys a, i ≠ j → Δ[i]? = some c → Δ[j]? = some c' → c.own? = some xs → c'.own? = some ys → slot σ i = some (.ref a) → slot σ j ≠ some (.ref a)
theorem CellOk.own {L : Lx} {F H : Hp} {o : Option V} {c : Cell} {w : OwnV} (h : CellOk L F H o c) (e : c.own? = some w) : ∃ a u, o = some (.ref a) ∧ H a = some u ∧ F a = none ∧ OwnOk L.K F u w := by
  cases c with
  | owv ys => cases e; exact h
  | pav ys => cases e; exact h
  | _ => cases e
theorem EnvOk.own {L : Lx} {F H : Hp} {σ : St} {Δ : DEnv} (h : EnvOk L F σ Δ H) {a : Addr} (o : Own σ Δ a) : ∃ u, H a = some u ∧ F a = none := by
  obtain ⟨i, c, xs, h1, h2, h3⟩ := o
  obtain ⟨b, vs, e1, e2, e3, _⟩ := (h.cells i c h1).own h2
  rw [h3] at e1; cases e1
  exact ⟨vs, e2, e3⟩
/-- what an evaluation may do: frozen things stay, all but the own lists stays, what is frozen or own anew was new or own -/
structure Step (σ : St) (Δ : DEnv) (F H : Hp) (σ' : St) (Δ' : DEnv) (F' H' : Hp) : Prop where
  fr : Ex F F'
  kp : ∀ b o, H b = some o → ¬ Own σ Δ b → H' b = some o
  fn : ∀ b o, F' b = some o → F b = some o ∨ H b = none ∨ Own σ Δ b
  ow : ∀ b, Own σ' Δ' b → Own σ Δ b ∨ H b = none
  pa : ∀ (i : Nat) xs, Δ[i]? = some (Cell.pav xs) → ∃ xs', Δ'[i]? = some (Cell.pav xs') ∧ slot σ' i = slot σ i
  pb : ∀ (i : Nat) xs, Δ'[i]? = some (Cell.pav xs) → ∃ xs', Δ[i]? = some (Cell.pav xs')
  th : ∀ b o, H b = some o → ∃ o', H' b = some o'
section
variable {σ σ1 σ2 : St} {Δ Δ1 Δ2 : DEnv} {F F1 F2 H H1 H2 : Hp}
theorem Step.refl : Step σ Δ F H σ Δ F H := ⟨Ex.refl F, fun _ _ h _ => h, fun _ _ h => .inl h, fun _ h => .inl h, fun _ xs h => ⟨xs, h, rfl⟩, fun _ xs h => ⟨xs, h⟩, fun _ o h => ⟨o, h⟩⟩
theorem Step.trans (a : Step σ Δ F H σ1 Δ1 F1 H1) (b : Step σ1 Δ1 F1 H1 σ2 Δ2 F2 H2) : Step σ Δ F H σ2 Δ2 F2 H2 := by
  have back : ∀ b, H1 b = none → H b = none := fun c h => by
    cases q : H c with
    | none => rfl
    | some o => obtain ⟨o', e⟩ := a.th c o q; rw [h] at e; cases e
  refine ⟨a.fr.trans b.fr, fun c o h n => ?_, fun c o h => ?_, fun c h => ?_, fun i xs h => ?_, fun i xs h => ?_, fun c o h => ?_⟩
  · refine b.kp c o (a.kp c o h n) fun w => ?_
    rcases a.ow c w with z | z
    · exact n z
    · rw [h] at z; cases z
  · rcases b.fn c o h with z | z | z
    · exact a.fn c o z
    · exact .inr (.inl (back c z))
    · rcases a.ow c z with y | y
      · exact .inr (.inr y)
      · exact .inr (.inl y)
  · rcases b.ow c h with z | z
    · exact a.ow c z
    · exact .inr (back c z)
  · obtain ⟨x1, e1, e2⟩ := a.pa i xs h
    obtain ⟨x2, e3, e4⟩ := b.pa i x1 e1
    exact ⟨x2, e3, e4.trans e2⟩
  · obtain ⟨x1, e1⟩ := b.pb i xs h
    exact a.pb i x1 e1
  · obtain ⟨o1, e1⟩ := a.th c o h
    exact b.th c o1 e1
theorem Step.hn (a : Step σ Δ F H σ1 Δ1 F1 H1) {b : Addr} (h : H1 b = none) : H b = none := by
  cases q : H b with
  | none => rfl
  | some o => obtain ⟨o', e⟩ := a.th b o q; rw [h] at e; cases e
end
/-- a change of the heap that leaves all: the frame stays as it is known -/
theorem EnvOk.grow {L : Lx} {F F' H H' : Hp} {σ : St} {Δ : DEnv} (h : EnvOk L F σ Δ H) (e : Ex H H') (f : Ex F F') (fh : Ex F' H') (fn : ∀ b o, F' b = some o → F b = some o ∨ H b = none) : EnvOk L F' σ Δ H' := by
  refine ⟨fh, h.len, fun i c hc => ?_, h.apart⟩
  have q := h.cells i c hc
  have own : ∀ w, (∃ a u, slot σ i = some (.ref a) ∧ H a = some u ∧ F a = none ∧ OwnOk L.K F u w) → ∃ a u, slot σ i = some (.ref a) ∧ H' a = some u ∧ F' a = none ∧ OwnOk L.K F' u w := by
    rintro xs ⟨a, vs, e1, e2, e3, e4⟩
    refine ⟨a, vs, e1, e _ _ e2, ?_, e4.mono f⟩
    cases z : F' a with
    | none => rfl
    | some o =>
      rcases fn a o z with y | y
      · rw [e3] at y; cases y
      · rw [e2] at y; cases y
  cases c with
  | no => trivial
  | va d => obtain ⟨v, e1, e2⟩ := q; exact ⟨v, e1, e2.mono f⟩
  | owv xs => exact own xs q
  | pav xs => exact own xs q
  | xc x => obtain ⟨a, c, dd, e1, e2, e3⟩ := q; exact ⟨a, c, dd, e1, e2, e3.mono f⟩
theorem Step.grow {F F' H H' : Hp} {σ : St} {Δ : DEnv} (e : Ex H H') (f : Ex F F') (fn : ∀ b o, F' b = some o → F b = some o ∨ H b = none) : Step σ Δ F H σ Δ F' H' :=
  ⟨f, fun b o h _ => e b o h, fun b o h => (fn b o h).elim .inl fun z => .inr (.inl z), fun _ h => .inl h, fun _ xs h => ⟨xs, h, rfl⟩, fun _ xs h => ⟨xs, h⟩, fun b o h => ⟨o, e b o h⟩⟩
/-- a new object that is frozen at once -/
theorem grow_new {F H : Hp} {p : Addr} {o : HO} (ex : Ex F H) (hp : H p = none) : Ex H (upd H p o) ∧ Ex F (upd F p o) ∧ Ex (upd F p o) (upd H p o) ∧ ∀ b u, upd F p o b = some u → F b = some u ∨ H b = none := by
  refine ⟨Ex.new hp, Ex.new (ex.none hp), fun b u e => ?_, fun b u e => ?_⟩
  · by_cases hb : b = p
    · subst hb; rw [upd_same] at e ⊢; exact e
    · rw [upd_ne hb] at e ⊢; exact ex b u e
  · by_cases hb : b = p
    · subst hb; exact .inr hp
    · rw [upd_ne hb] at e; exact .inl e

/-! ### results -/
inductive Res (α : Type) where
  | stuck | ok (a : α) (Δ : DEnv) | ex (x : Exc) (Δ : DEnv)
def Res.bind {α β : Type} (r : Res α) (f : α → DEnv → Res β) : Res β := match r with
  | .stuck => .stuck
  | .ok a Δ => f a Δ
  | .ex x Δ => .ex x Δ
/-- what must hold behind an evaluation that is told by r: Q at a value, W at an exception -/
def Want {α : Type} (L : Lx) (W : WX) (σ : St) (Δ : DEnv) (F H : Hp) (r : Res α) (Q : α → DEnv → Hp → Hp → Prop) : Prop := match r with
  | .stuck => False
  | .ok a Δ' => ∀ F' H', EnvOk L F' σ Δ' H' → Step σ Δ F H σ Δ' F' H' → Q a Δ' F' H'
  | .ex x Δ' => ∀ c dd F' H', EnvOk L F' σ Δ' H' → Step σ Δ F H σ Δ' F' H' → XOk L F' c dd x → W c dd σ H'
section
variable {α β : Type} {L : Lx} {W : WX} {σ : St} {Δ : DEnv} {F H : Hp}
theorem Want.bind {r : Res α} {f : α → DEnv → Res β} {Q : β → DEnv → Hp → Hp → Prop} (h : Want L W σ Δ F H (r.bind f) Q) : Want L W σ Δ F H r (fun a Δ1 F1 H1 => Want L W σ Δ1 F1 H1 (f a Δ1) Q) := by
  cases r with
  | stuck => exact h
  | ex x Δ' => exact h
  | ok a Δ1 =>
    intro F1 H1 e1 s1
    have h' : Want L W σ Δ F H (f a Δ1) Q := h
    show Want L W σ Δ1 F1 H1 (f a Δ1) Q
    cases q : f a Δ1 with
    | stuck => rw [q] at h'; exact h'
    | ok b Δ2 => rw [q] at h'; exact fun F2 H2 e2 s2 => h' F2 H2 e2 (s1.trans s2)
    | ex x Δ2 => rw [q] at h'; exact fun c dd F2 H2 e2 s2 xo => h' c dd F2 H2 e2 (s1.trans s2) xo
theorem Want.mono {r : Res α} {Q Q' : α → DEnv → Hp → Hp → Prop} (h : Want L W σ Δ F H r Q) (hq : ∀ a Δ' F' H', EnvOk L F' σ Δ' H' → Q a Δ' F' H' → Q' a Δ' F' H') : Want L W σ Δ F H r Q' := by
  cases r with
  | stuck => exact h
  | ex x Δ' => exact h
  | ok a Δ1 => exact fun F' H' e s => hq a Δ1 F' H' e (h F' H' e s)
theorem Want.here {a : α} {Q : α → DEnv → Hp → Hp → Prop} (env : EnvOk L F σ Δ H) (h : Want L W σ Δ F H (.ok a Δ) Q) : Q a Δ F H := h F H env .refl
end
end KL
/-! KL, part b: expressions. -/
namespace KL
open PySem L2

/-- a readable thing: frozen data, or a list (perhaps an own one) of frozen items -/
def RepR (L : Lx) (F H : Hp) (v : V) (d : D) : Prop := Rep L.K F v d ∨ ∃ a vs xs, v = .ref a ∧ d = .lst xs ∧ H a = some (.lst vs) ∧ Reps L.K F vs xs
theorem RepR.of {L : Lx} {F H : Hp} {v : V} {d : D} (h : Rep L.K F v d) : RepR L F H v d := .inl h
theorem RepR.lst {L : Lx} {F H : Hp} {v : V} {ds : List D} (e : Ex F H) (h : RepR L F H v (.lst ds)) : ∃ a vs, v = .ref a ∧ H a = some (.lst vs) ∧ Reps L.K F vs ds := by
  rcases h with h | ⟨a, vs, xs, e1, e2, e3, e4⟩
  · obtain ⟨a, vs, e1, e2, e3⟩ := rep_ref_lst h
    exact ⟨a, vs, e1, e _ _ e2, e3⟩
  · cases e2; exact ⟨a, vs, e1, e3, e4⟩
theorem RepR.lsx {L : Lx} {F H : Hp} {v : V} {ds : List D} (e : Ex F H) (h : RepR L F H v (.lsx ds)) : ∃ a vs, v = .ref a ∧ SqL L.K H a vs ∧ Reps L.K F vs ds := by
  rcases h with h | ⟨a, vs, xs, e1, e2, e3, e4⟩
  · obtain ⟨a, vs, e1, e2, e3⟩ := rep_ref_lsx h
    exact ⟨a, vs, e1, e.sl e2, e3⟩
  · cases e2
theorem RepR.tup {L : Lx} {F H : Hp} {v : V} {ds : List D} (e : Ex F H) (h : RepR L F H v (.tup ds)) : ∃ a vs, v = .ref a ∧ SqT L.K H a vs ∧ Reps L.K F vs ds := by
  rcases h with h | ⟨a, vs, xs, e1, e2, e3, e4⟩
  · obtain ⟨a, vs, e1, e2, e3⟩ := rep_ref_tup h
    exact ⟨a, vs, e1, e.st e2, e3⟩
  · cases e2
theorem RepR.int {L : Lx} {F H : Hp} {v : V} {i : Int} (h : RepR L F H v (.int i)) : v = .int i := by
  rcases h with h | ⟨a, vs, xs, e1, e2, e3, e4⟩
  · cases h; rfl
  · cases e2
theorem RepR.str {L : Lx} {F H : Hp} {v : V} {x : Str} (h : RepR L F H v (.str x)) : v = .str x := by
  rcases h with h | ⟨a, vs, xs, e1, e2, e3, e4⟩
  · cases h; rfl
  · cases e2
theorem RepR.bl {L : Lx} {F H : Hp} {v : V} {b : Bool} (h : RepR L F H v (.bl b)) : v = .bl b := by
  rcases h with h | ⟨a, vs, xs, e1, e2, e3, e4⟩
  · cases h; rfl
  · cases e2
theorem RepR.non {L : Lx} {F H : Hp} {v : V} (h : RepR L F H v .non) : v = .non := by
  rcases h with h | ⟨a, vs, xs, e1, e2, e3, e4⟩
  · cases h; rfl
  · cases e2

/-! ### soundness of a reading -/
def Snd (L : Lx) (W : WX) (te : TE) (m : DEnv → Res D) : Prop := ∀ (σ : L2.St) (Δ : DEnv) (F H : Hp) (Q : VK), EnvOk L F σ Δ H → Want L W σ Δ F H (m Δ) (fun d _ F' H' => ∀ v, Rep L.K F' v d → Q v H') → te σ H Q
def SndR (L : Lx) (W : WX) (te : TE) (m : DEnv → Res D) : Prop := ∀ (σ : L2.St) (Δ : DEnv) (F H : Hp) (Q : VK), EnvOk L F σ Δ H → Want L W σ Δ F H (m Δ) (fun d _ F' H' => ∀ v, RepR L F' H' v d → Q v H') → te σ H Q
def SndF (L : Lx) (W : WX) (te : TE) (m : DEnv → Res (List D)) : Prop := ∀ (σ : L2.St) (Δ : DEnv) (F H : Hp) (Q : VK), EnvOk L F σ Δ H →
  Want L W σ Δ F H (m Δ) (fun ds Δ' F' H' => ∀ p vs, H p = none → ¬ Own σ Δ' p → F' p = none → H' p = some (.lst vs) → Reps L.K F' vs ds → Q (.ref p) H') → te σ H Q
def SndT (L : Lx) (W : WX) (tt : TT) (m : DEnv → Res Bool) : Prop := ∀ (σ : L2.St) (Δ : DEnv) (F H : Hp) (Q : Bool → Hp → Prop), EnvOk L F σ Δ H → Want L W σ Δ F H (m Δ) (fun b _ F' H' => Q b H') → tt σ H Q
def SndA (L : Lx) (W : WX) (ta : TA) (m : DEnv → Res (List D)) : Prop := ∀ (σ : L2.St) (Δ : DEnv) (F H : Hp) (Q : List V → Hp → Prop), EnvOk L F σ Δ H → Want L W σ Δ F H (m Δ) (fun ds _ F' H' => ∀ vs, Reps L.K F' vs ds → Q vs H') → ta σ H Q

structure DE (X : Cx) (L : Lx) (W : WX) (e : Expr) (m : DEnv → Res D) : Prop where ex : ∃ te, PE X e te ∧ Snd L W te m
structure DR (X : Cx) (L : Lx) (W : WX) (e : Expr) (m : DEnv → Res D) : Prop where ex : ∃ te, PE X e te ∧ SndR L W te m
structure DF (X : Cx) (L : Lx) (W : WX) (e : Expr) (m : DEnv → Res (List D)) : Prop where ex : ∃ te, PE X e te ∧ SndF L W te m
structure DT (X : Cx) (L : Lx) (W : WX) (e : Expr) (m : DEnv → Res Bool) : Prop where ex : ∃ tt, PT X e tt ∧ SndT L W tt m
structure DA (X : Cx) (L : Lx) (W : WX) (es : List Expr) (m : DEnv → Res (List D)) : Prop where ex : ∃ ta, PA X es ta ∧ SndA L W ta m

/-- what the layer wants of the place: the written part, a little room -/
structure Cxt (X : Cx) (L : Lx) (W : WX) : Prop where
  k : L.K = X.K
  hu : X.A.units + 66 < cLine

def Res.map {α β : Type} (f : α → β) (r : Res α) : Res β := r.bind fun a Δ => .ok (f a) Δ
def Res.opt {α : Type} (o : Option α) (Δ : DEnv) : Res α := match o with
  | some a => .ok a Δ
  | none => .stuck
def Res.nox {α : Type} : Res α → Res α
  | .ex _ _ => .stuck
  | r => r

section
variable {X : Cx} {L : Lx} {W : WX} {σ : L2.St} {Δ Δ' : DEnv} {F H : Hp} {ta tb tc te : TE} {ma mb mc m : DEnv → Res D}
theorem Snd.r (h : Snd L W te m) : SndR L W te m := fun σ Δ F H Q e w => h σ Δ F H Q e (w.mono fun d Δ' F' H' _ q v r => q v (.inl r))
theorem DE.r {e : Expr} (h : DE X L W e m) : DR X L W e m := ⟨let ⟨te, h1, h2⟩ := h.ex; ⟨te, h1, h2.r⟩⟩
theorem EnvOk.frz {p : Addr} {vs : List V} (env : EnvOk L F σ Δ H) (ho : ¬ Own σ Δ p) (hf : F p = none) (hh : H p = some (.lst vs)) : EnvOk L (upd F p (.lst vs)) σ Δ H := by
  have exF : Ex F (upd F p (.lst vs)) := Ex.new hf
  have exH : Ex (upd F p (.lst vs)) H := fun b o e => by
    by_cases hb : b = p
    · subst hb; rw [upd_same] at e; rw [← e]; exact hh
    · rw [upd_ne hb] at e; exact env.ex b o e
  refine ⟨exH, env.len, fun i c hc => ?_, env.apart⟩
  have k := env.cells i c hc
  have own : ∀ xs, c.own? = some xs → (∃ a u, slot σ i = some (.ref a) ∧ H a = some u ∧ F a = none ∧ OwnOk L.K F u xs) → ∃ a u, slot σ i = some (.ref a) ∧ H a = some u ∧ upd F p (.lst vs) a = none ∧ OwnOk L.K (upd F p (.lst vs)) u xs := by
    rintro xs hl ⟨a, ws, e1, e2, e3, e4⟩
    refine ⟨a, ws, e1, e2, ?_, e4.mono exF⟩
    have : a ≠ p := fun z => ho ⟨i, c, xs, hc, hl, by rw [← z]; exact e1⟩
    rw [upd_ne this]; exact e3
  cases c with
  | no => trivial
  | va d => obtain ⟨v, e1, e2⟩ := k; exact ⟨v, e1, e2.mono exF⟩
  | owv xs => exact own xs rfl k
  | pav xs => exact own xs rfl k
  | xc x => obtain ⟨a, c, dd, e1, e2, e3⟩ := k; exact ⟨a, c, dd, e1, e2, e3.mono exF⟩
theorem Step.frz {σ' : L2.St} {F' H' : Hp} {p : Addr} {o : HO} (s : Step σ Δ F H σ' Δ' F' H') (hf : F' p = none) (hp : H p = none ∨ Own σ Δ p) : Step σ Δ F H σ' Δ' (upd F' p o) H' :=
  ⟨s.fr.trans (Ex.new hf), s.kp, fun b u e => by
    by_cases hb : b = p
    · subst hb; rcases hp with z | z
      · exact .inr (.inl z)
      · exact .inr (.inr z)
    · rw [upd_ne hb] at e; exact s.fn b u e, s.ow, s.pa, s.pb, s.th⟩
/-- a fresh list is frozen -/
theorem SndF.e {mf : DEnv → Res (List D)} (h : SndF L W te mf) : Snd L W te (fun Δ => (mf Δ).map .lst) := by
  intro σ Δ F H Q env w
  refine h σ Δ F H Q env ?_
  replace w : Want L W σ Δ F H ((mf Δ).map D.lst) _ := w
  cases q : mf Δ with
  | stuck => rw [q] at w; exact w
  | ex x Δ' => rw [q] at w; exact w
  | ok ds Δ' =>
    rw [q] at w
    intro F' H' env' s' p vs hp ho hf hh hr
    refine w _ H' (env'.frz ho hf hh) (s'.frz hf (.inl hp)) _ ?_
    exact .lst upd_same hr.1 fun i v d h1 h2 => (hr.2 i v d h1 h2).mono (Ex.new hf)
theorem DF.e {e : Expr} {mf : DEnv → Res (List D)} (h : DF X L W e mf) : DE X L W e (fun Δ => (mf Δ).map .lst) := ⟨let ⟨te, h1, h2⟩ := h.ex; ⟨te, h1, h2.e⟩⟩

/-! ### constants and names -/
theorem snd_c {v : V} {d : D} (h : ∀ F, Rep L.K F v d) : Snd L W (tC v) (fun Δ => .ok d Δ) := fun σ Δ F H Q env w => w F H env .refl v (h F)
theorem de_int {i : Int} {j pos} : DE X L W (.Constant (.int i) j pos) (fun Δ => .ok (.int i) Δ) := ⟨_, pe_int, snd_c fun _ => .int i⟩
theorem de_bl {b : Bool} {j pos} : DE X L W (.Constant (.bool b) j pos) (fun Δ => .ok (.bl b) Δ) := ⟨_, pe_bl, snd_c fun _ => .bl b⟩
theorem de_non {j pos} : DE X L W (.Constant .none j pos) (fun Δ => .ok .non Δ) := ⟨_, pe_non, snd_c fun _ => .non⟩
theorem de_str {x : Str} {j pos} : DE X L W (.Constant (.str x) j pos) (fun Δ => .ok (.str x) Δ) := ⟨_, pe_str, snd_c fun _ => .str x⟩
/-- a constant of the module -/
theorem de_glob {x : Str} {v : V} {u : Value} {d : D} {pos : Pos} (hg : Gl X x) (hm : X.mg x = some u) (r : RelV v u) (h : ∀ F, Rep L.K F v d) (hd : (x == ("__debug__" : Str)) = false) : DE X L W (.Name x pos) (fun Δ => .ok d Δ) :=
  ⟨_, pe_glob hg hm r hd, snd_c h⟩

def rdC : Cell → Option D
  | .va d => some d
  | .owv (.l xs) => some (.lst xs)
  | .pav (.l xs) => some (.lst xs)
  | _ => none
/-- what a slot may be read as -/
def rdR (Δ : DEnv) (i : Nat) : Option D := (Δ[i]?).bind rdC
theorem EnvOk.rd {i : Nat} {d : D} (env : EnvOk L F σ Δ H) (h : rdR Δ i = some d) : ∃ v, slot σ i = some v ∧ RepR L F H v d := by
  unfold rdR at h
  cases q : Δ[i]? with
  | none => rw [q] at h; cases h
  | some c =>
    rw [q] at h
    have k := env.cells i c q
    cases c with
    | no => cases h
    | xc x => cases h
    | va e => cases h; obtain ⟨v, e1, e2⟩ := k; exact ⟨v, e1, .inl e2⟩
    | owv w => cases w with
      | l xs => cases h; obtain ⟨a, u, e1, e2, e3, e4⟩ := k; obtain ⟨vs, rfl, e5⟩ := e4.lst; exact ⟨_, e1, .inr ⟨a, vs, xs, rfl, rfl, e2, e5⟩⟩
      | s x fs => cases h
    | pav w => cases w with
      | l xs => cases h; obtain ⟨a, u, e1, e2, e3, e4⟩ := k; obtain ⟨vs, rfl, e5⟩ := e4.lst; exact ⟨_, e1, .inr ⟨a, vs, xs, rfl, rfl, e2, e5⟩⟩
      | s x fs => cases h
def varR (i : Nat) : DEnv → Res D := fun Δ => .opt (rdR Δ i) Δ
theorem sndR_var {i : Nat} : SndR L W (tVar i) (varR i) := by
  intro σ Δ F H Q env w
  unfold varR at w
  cases q : rdR Δ i with
  | none => rw [q] at w; exact w.elim
  | some d =>
    rw [q] at w
    obtain ⟨v, e1, e2⟩ := env.rd q
    exact ⟨v, slot_some e1, w F H env .refl v e2⟩
/-- a name as a value: an own list is frozen -/
def varM (i : Nat) : DEnv → Res D := fun Δ => match Δ[i]? with
  | some (.va d) => .ok d Δ
  | some (.owv (.l xs)) => .ok (.lst xs) (Δ.set i (.va (.lst xs)))
  | _ => .stuck
theorem list_set_get {α : Type} {l : List α} {i j : Nat} {x y : α} (h : (l.set i x)[j]? = some y) : (j = i ∧ y = x) ∨ (j ≠ i ∧ l[j]? = some y) := by
  by_cases hj : i = j
  · subst hj
    by_cases hi : i < l.length
    · rw [List.getElem?_set_self hi] at h; cases h; exact .inl ⟨rfl, rfl⟩
    · rw [List.getElem?_eq_none (by simpa using hi)] at h; cases h
  · rw [List.getElem?_set_ne hj] at h; exact .inr ⟨Ne.symm hj, h⟩
theorem EnvOk.freeze {i : Nat} {xs : List D} (env : EnvOk L F σ Δ H) (h : Δ[i]? = some (.ow xs)) : ∃ a vs, slot σ i = some (.ref a) ∧ H a = some (.lst vs) ∧ F a = none ∧ Reps L.K F vs xs ∧
    EnvOk L (upd F a (.lst vs)) σ (Δ.set i (.va (.lst xs))) H ∧ Step σ Δ F H σ (Δ.set i (.va (.lst xs))) (upd F a (.lst vs)) H := by
  obtain ⟨a, u, e1, e2, e3, e0⟩ := env.cells i _ h
  obtain ⟨vs, rfl, e4⟩ := e0.lst
  have exF : Ex F (upd F a (.lst vs)) := Ex.new e3
  have own : Own σ Δ a := ⟨i, _, _, h, rfl, e1⟩
  refine ⟨a, vs, e1, e2, e3, e4, ⟨fun b o e => ?_, by rw [List.length_set]; exact env.len, fun j c hc => ?_, fun j k c c' ys zs b hjk hj hk hl hl' e => ?_⟩, ?_⟩
  · by_cases hb : b = a
    · subst hb; rw [upd_same] at e; rw [← e]; exact e2
    · rw [upd_ne hb] at e; exact env.ex b o e
  · rcases list_set_get hc with ⟨rfl, rfl⟩ | ⟨hj, hc⟩
    · exact ⟨_, e1, .lst upd_same e4.1 fun i v d h1 h2 => (e4.2 i v d h1 h2).mono exF⟩
    · have k := env.cells j c hc
      have ownj : ∀ ys, c.own? = some ys → (∃ b u, slot σ j = some (.ref b) ∧ H b = some u ∧ F b = none ∧ OwnOk L.K F u ys) → ∃ b u, slot σ j = some (.ref b) ∧ H b = some u ∧ upd F a (.lst vs) b = none ∧ OwnOk L.K (upd F a (.lst vs)) u ys := by
        rintro ys hl ⟨b, ws, g1, g2, g3, g4⟩
        refine ⟨b, ws, g1, g2, ?_, g4.mono exF⟩
        have : b ≠ a := fun z => env.apart i j _ c _ ys a (Ne.symm hj) h hc rfl hl e1 (by rw [← z]; exact g1)
        rw [upd_ne this]; exact g3
      cases c with
      | no => trivial
      | va d => obtain ⟨v, g1, g2⟩ := k; exact ⟨v, g1, g2.mono exF⟩
      | owv ys => exact ownj ys rfl k
      | pav ys => exact ownj ys rfl k
      | xc x => obtain ⟨b, c, dd, g1, g2, g3⟩ := k; exact ⟨b, c, dd, g1, g2, g3.mono exF⟩
  · rcases list_set_get hj with ⟨rfl, rfl⟩ | ⟨nj, hj⟩
    · cases hl
    · rcases list_set_get hk with ⟨rfl, rfl⟩ | ⟨nk, hk⟩
      · cases hl'
      · exact env.apart j k c c' ys zs b hjk hj hk hl hl' e
  · refine ⟨exF, fun b o e _ => e, fun b o e => ?_, fun b ⟨j, c, ys, hc, hl, e⟩ => .inl ?_, fun j ys hj => ?_, fun j ys hj => ?_, fun b o e => ⟨o, e⟩⟩
    · by_cases hb : b = a
      · subst hb; exact .inr (.inr own)
      · rw [upd_ne hb] at e; exact .inl e
    · rcases list_set_get hc with ⟨rfl, rfl⟩ | ⟨nj, hc⟩
      · cases hl
      · exact ⟨j, c, ys, hc, hl, e⟩
    · have nj : i ≠ j := fun z => by subst z; rw [h] at hj; cases hj
      exact ⟨ys, by rw [List.getElem?_set_ne nj]; exact hj, rfl⟩
    · rcases list_set_get hj with ⟨rfl, e⟩ | ⟨nj, hj⟩
      · cases e
      · exact ⟨ys, hj⟩
theorem snd_var {i : Nat} : Snd L W (tVar i) (varM i) := by
  intro σ Δ F H Q env w
  unfold varM at w
  split at w
  · rename_i d q
    obtain ⟨v, e1, e2⟩ := env.cells i _ q
    exact ⟨v, slot_some e1, w F H env .refl v e2⟩
  · rename_i xs q
    obtain ⟨a, vs, e1, e2, e3, e4, env2, st⟩ := env.freeze q
    exact ⟨_, slot_some e1, w _ H env2 st _ (.lst upd_same e4.1 fun i v d h1 h2 => (e4.2 i v d h1 h2).mono (Ex.new e3))⟩
  · exact w.elim
theorem de_var {i : Nat} {x : Str} {pos : Pos} (hN : X.N[i]? = some x) (hv : Vis X.env.scope x) (hd : (x == ("__debug__" : Str)) = false) (hcd : (x == ("__classdict__" : Str)) = false) : DE X L W (.Name x pos) (varM i) := ⟨_, pe_var hN hv hd hcd, snd_var⟩
theorem dr_var {i : Nat} {x : Str} {pos : Pos} (hN : X.N[i]? = some x) (hv : Vis X.env.scope x) (hd : (x == ("__debug__" : Str)) = false) (hcd : (x == ("__classdict__" : Str)) = false) : DR X L W (.Name x pos) (varR i) := ⟨_, pe_var hN hv hd hcd, sndR_var⟩

/-! ### operations on two values -/
/-- what a heap may gain -/
structure Gro (F H F' H' : Hp) : Prop where
  h : Ex H H'
  f : Ex F F'
  fh : Ex F' H'
  n : ∀ b o, F' b = some o → F b = some o ∨ H b = none
theorem Gro.refl (e : Ex F H) : Gro F H F H := ⟨Ex.refl H, Ex.refl F, e, fun _ _ h => .inl h⟩
theorem Gro.new {p : Addr} {o : HO} (e : Ex F H) (hp : H p = none) : Gro F H (upd F p o) (upd H p o) :=
  let ⟨a, b, c, d⟩ := grow_new (o := o) e hp
  ⟨a, b, c, d⟩
theorem EnvOk.gro {F' H' : Hp} (env : EnvOk L F σ Δ H) (g : Gro F H F' H') : EnvOk L F' σ Δ H' := env.grow g.h g.f g.fh g.n
theorem Step.gro {F' H' : Hp} (g : Gro F H F' H') : Step σ Δ F H σ Δ F' H' := Step.grow g.h g.f g.n
def OpS (L : Lx) (r : R2) (f : D → D → Option D) : Prop := ∀ (F H : Hp) (x y : V) (dx dy d : D) (Q : VK), Ex F H → f dx dy = some d → RepR L F H x dx → RepR L F H y dy →
  (∀ v F' H', Gro F H F' H' → Rep L.K F' v d → Q v H') → r x y H Q
def OpF (L : Lx) (r : R2) (f : D → D → Option (List D)) : Prop := ∀ (F H : Hp) (x y : V) (dx dy : D) (ds : List D) (Q : VK), Ex F H → f dx dy = some ds → RepR L F H x dx → RepR L F H y dy →
  (∀ p vs, H p = none → Reps L.K F vs ds → Q (.ref p) (upd H p (.lst vs))) → r x y H Q
def opM {α : Type} (f : D → D → Option α) (ma mb : DEnv → Res D) : DEnv → Res α := fun Δ => (ma Δ).bind fun x Δ1 => (mb Δ1).bind fun y Δ2 => .opt (f x y) Δ2
/-- the first operand a name: it is read behind the second one -/
def opV {α : Type} (f : D → D → Option α) (i : Nat) (mb : DEnv → Res D) : DEnv → Res α := fun Δ => match rdR Δ i with
  | none => .stuck
  | some _ => (mb Δ).bind fun y Δ1 => .opt ((rdR Δ1 i).bind fun x => f x y) Δ1
theorem Rep.r {F H : Hp} {v : V} {d : D} (h : Rep L.K F v d) : RepR L F H v d := .inl h
theorem snd_op {r : R2} {f : D → D → Option D} (hf : OpS L r f) (ha : Snd L W ta ma) (hb : SndR L W tb mb) : Snd L W (tOp r ta tb) (opM f ma mb) := by
  intro σ Δ F H Q env w
  refine ha σ Δ F H _ env (w.bind.mono fun x Δ1 F1 H1 env1 w1 v rv => ?_)
  refine hb σ Δ1 F1 H1 _ env1 ?_
  -- what the first operand is stays, whatever the second one does
  have w2 := w1.bind
  cases q : mb Δ1 with
  | stuck => rw [q] at w2; exact w2
  | ex x Δ' => rw [q] at w2; exact w2
  | ok y Δ2 =>
    rw [q] at w2
    intro F2 H2 env2 s2 u ru
    have w3 : Want L W σ Δ2 F2 H2 (.opt (f x y) Δ2) _ := w2 F2 H2 env2 s2
    cases g : f x y with
    | none => rw [g] at w3; exact w3.elim
    | some d =>
      rw [g] at w3
      exact hf F2 H2 v u x y d Q env2.ex g (rv.mono s2.fr).r ru fun z F' H' gr rz => w3 F' H' (env2.gro gr) (.gro gr) z rz
theorem snd_opV {r : R2} {f : D → D → Option D} {i : Nat} (hf : OpS L r f) (hb : SndR L W tb mb) : Snd L W (tOp r (tVar i) tb) (opV f i mb) := by
  intro σ Δ F H Q env w
  unfold opV at w
  cases q0 : rdR Δ i with
  | none => rw [q0] at w; exact w.elim
  | some d0 =>
    rw [q0] at w
    obtain ⟨v, e1, _⟩ := env.rd q0
    refine ⟨v, slot_some e1, hb σ Δ F H _ env ?_⟩
    have w2 := w.bind
    cases q : mb Δ with
    | stuck => rw [q] at w2; exact w2
    | ex x Δ' => rw [q] at w2; exact w2
    | ok y Δ2 =>
      rw [q] at w2
      intro F2 H2 env2 s2 u ru
      have w3 : Want L W σ Δ2 F2 H2 (.opt ((rdR Δ2 i).bind fun x => f x y) Δ2) _ := w2 F2 H2 env2 s2
      cases q1 : rdR Δ2 i with
      | none => rw [q1] at w3; exact w3.elim
      | some x =>
        rw [q1] at w3
        obtain ⟨v', e2, rv⟩ := env2.rd q1
        rw [e1] at e2; cases e2
        cases g : f x y with
        | none => rw [Option.bind_some, g] at w3; exact w3.elim
        | some d =>
          rw [Option.bind_some, g] at w3
          exact hf F2 H2 v u x y d Q env2.ex g rv ru fun z F' H' gr rz => w3 F' H' (env2.gro gr) (.gro gr) z rz
/-- a new list beside all that is known -/
theorem fresh_env {p : Addr} {vs : List V} (env : EnvOk L F σ Δ H) (hp : H p = none) : EnvOk L F σ Δ (upd H p (.lst vs)) ∧ Step σ Δ F H σ Δ F (upd H p (.lst vs)) ∧ ¬ Own σ Δ p ∧ F p = none := by
  have e : Ex H (upd H p (.lst vs)) := Ex.new hp
  refine ⟨env.grow e (Ex.refl F) (env.ex.trans e) fun b o h => .inl h, Step.grow e (Ex.refl F) fun b o h => .inl h, fun o => ?_, env.ex.none hp⟩
  obtain ⟨vs, h, _⟩ := env.own o
  rw [hp] at h; cases h
theorem sndF_op {r : R2} {f : D → D → Option (List D)} (hf : OpF L r f) (ha : Snd L W ta ma) (hb : SndR L W tb mb) : SndF L W (tOp r ta tb) (opM f ma mb) := by
  intro σ Δ F H Q env w
  refine ha σ Δ F H _ env ?_
  have w0 := w
  unfold opM at w0
  cases qa : ma Δ with
  | stuck => rw [qa] at w0; exact w0
  | ex x Δ' => rw [qa] at w0; exact w0
  | ok x Δ1 =>
    rw [qa] at w0
    intro F1 H1 env1 s1 v rv
    refine hb σ Δ1 F1 H1 _ env1 ?_
    have w1 : Want L W σ Δ F H ((mb Δ1).bind fun y Δ2 => .opt (f x y) Δ2) _ := w0
    cases qb : mb Δ1 with
    | stuck => rw [qb] at w1; exact w1
    | ex x Δ' => rw [qb] at w1; exact fun c dd F2 H2 env2 s2 xo => w1 c dd F2 H2 env2 (s1.trans s2) xo
    | ok y Δ2 =>
      rw [qb] at w1
      intro F2 H2 env2 s2 u ru
      have w3 : Want L W σ Δ F H (.opt (f x y) Δ2) _ := w1
      cases g : f x y with
      | none => rw [g] at w3; exact w3.elim
      | some ds =>
        rw [g] at w3
        refine hf F2 H2 v u x y ds Q env2.ex g (rv.mono s2.fr).r ru fun p vs hp rp => ?_
        obtain ⟨a1, a2, a3, a4⟩ := fresh_env (vs := vs) env2 hp
        exact w3 F2 _ a1 ((s1.trans s2).trans a2) p vs ((s1.trans s2).hn hp) a3 a4 upd_same rp
theorem sndF_opV {r : R2} {f : D → D → Option (List D)} {i : Nat} (hf : OpF L r f) (hb : SndR L W tb mb) : SndF L W (tOp r (tVar i) tb) (opV f i mb) := by
  intro σ Δ F H Q env w
  unfold opV at w
  cases q0 : rdR Δ i with
  | none => rw [q0] at w; exact w.elim
  | some d0 =>
    rw [q0] at w
    obtain ⟨v, e1, _⟩ := env.rd q0
    refine ⟨v, slot_some e1, hb σ Δ F H _ env ?_⟩
    have w2 : Want L W σ Δ F H ((mb Δ).bind fun y Δ1 => .opt ((rdR Δ1 i).bind fun x => f x y) Δ1) _ := w
    cases q : mb Δ with
    | stuck => rw [q] at w2; exact w2
    | ex x Δ' => rw [q] at w2; exact w2
    | ok y Δ2 =>
      rw [q] at w2
      intro F2 H2 env2 s2 u ru
      have w3 : Want L W σ Δ F H (.opt ((rdR Δ2 i).bind fun x => f x y) Δ2) _ := w2
      cases q1 : rdR Δ2 i with
      | none => rw [q1] at w3; exact w3.elim
      | some x =>
        rw [q1, Option.bind_some] at w3
        obtain ⟨v', e2, rv⟩ := env2.rd q1
        rw [e1] at e2; cases e2
        cases g : f x y with
        | none => rw [g] at w3; exact w3.elim
        | some ds =>
          rw [g] at w3
          refine hf F2 H2 v u x y ds Q env2.ex g rv ru fun p vs hp rp => ?_
          obtain ⟨a1, a2, a3, a4⟩ := fresh_env (vs := vs) env2 hp
          exact w3 F2 _ a1 (s2.trans a2) p vs (s2.hn hp) a3 a4 upd_same rp
end
end KL
/-! KL, part c: the operations. -/
namespace KL
open PySem L2

theorem line_eq : sizeLine = 16777216 := sizeLine_eq
section
variable {X : Cx} {L : Lx} {W : WX}
theorem opr_or {f : Value → Value → Sem Value} {r r' : R2} (h : OpR X f r) (h' : OpR X f r') : OpR X f (fun x y H Q => r x y H Q ∨ r' x y H Q) := by
  intro pins s σ H x y v u Q I rx ry q
  rcases q with q | q
  · exact h pins s σ H x y v u Q I rx ry q
  · exact h' pins s σ H x y v u Q I rx ry q
/-- operations whose answer is no object -/
theorem OpS.flat {r : R2} {f : D → D → Option D} (h : ∀ F H x y dx dy d (Q : VK), Ex F H → f dx dy = some d → RepR L F H x dx → RepR L F H y dy → ∃ v, (∀ F, Rep L.K F v d) ∧ (Q v H → r x y H Q)) : OpS L r f := by
  intro F H x y dx dy d Q ex hf rx ry q
  obtain ⟨v, h1, h2⟩ := h F H x y dx dy d Q ex hf rx ry
  exact h2 (q v F H (.refl ex) (h1 F))

/-! ### numbers -/
def rAddA (K : PySem.W.Frag) : R2 := fun x y H Q => (∃ i j, x = .int i ∧ y = .int j ∧ Q (.int (i + j)) H) ∨ (∃ i j, x = .str i ∧ y = .str j ∧ i.length + j.length ≤ sizeLine ∧ Q (.str (i ++ j)) H) ∨ rCatT K x y H Q
theorem op_addA : OpR X (binaryOp .Add) (rAddA X.K) := opr_or op_add (opr_or op_add_str op_catT)
def addD : D → D → Option D
  | .int i, .int j => some (.int (i + j))
  | .str x, .str y => if x.length + y.length ≤ 16777216 then some (.str (x ++ y)) else none
  | .tup xs, .tup ys => if xs.length + ys.length ≤ 16777216 ∧ xs.isEmpty = false then some (.tup (xs ++ ys)) else none
  | _, _ => none
theorem RepR.ntup {F H : Hp} {v : V} {ds : List D} (h : RepR L F H v (.tup ds)) : Rep L.K F v (.tup ds) := by
  rcases h with h | ⟨a, vs, xs, e1, e2, e3, e4⟩
  · exact h
  · cases e2
theorem ops_add : OpS L (rAddA L.K) addD := by
  intro F H x y dx dy d Q ex hf rx ry q
  unfold addD at hf
  split at hf
  · cases hf; rw [rx.int, ry.int]; exact .inl ⟨_, _, rfl, rfl, q _ F H (.refl ex) (.int _)⟩
  · split at hf
    · rename_i hl; cases hf; rw [rx.str, ry.str]; exact .inr (.inl ⟨_, _, rfl, rfl, by rw [line_eq]; exact hl, q _ F H (.refl ex) (.str _)⟩)
    · cases hf
  · rename_i xs ys
    split at hf
    · rename_i hl; cases hf
      obtain ⟨a, vs, e1, e2, e3⟩ := rx.tup ex
      obtain ⟨b, ws, e4, e5, e6⟩ := ry.tup ex
      refine .inr (.inr ⟨a, b, vs, ws, e1, e4, e2, e5, fun z => ?_, by rw [line_eq, e3.1, e6.1]; exact hl.1, fun z => ?_, fun z p hp => ?_⟩)
      · subst z; have := e3.1; cases xs <;> simp_all
      · subst z
        have : ys = [] := by have := e6.1; cases ys <;> simp_all
        subst this
        rw [List.append_nil] at q
        rw [← e1]
        exact q _ F H (.refl ex) rx.ntup
      · have rr := e3.append e6
        exact q _ _ _ (.new ex hp) (.tup (SqT.of upd_same) rr.1 fun i v d h1 h2 => (rr.2 i v d h1 h2).mono (Ex.new (ex.none hp)))
    · cases hf
  · cases hf
def intD (C : Int → Int → Bool) (g : Int → Int → D) : D → D → Option D
  | .int i, .int j => if C i j then some (g i j) else none
  | _, _ => none
theorem ops_int {C : Int → Int → Prop} {g : Int → Int → Int} {c : Int → Int → Bool} (hc : ∀ i j, c i j = true → C i j) : OpS L (rI C fun i j => .int (g i j)) (intD c fun i j => .int (g i j)) := by
  intro F H x y dx dy d Q ex hf rx ry q
  unfold intD at hf
  split at hf
  · split at hf
    · rename_i h; cases hf; rw [rx.int, ry.int]; exact ⟨_, _, rfl, rfl, hc _ _ h, q _ F H (.refl ex) (.int _)⟩
    · cases hf
  · cases hf
theorem ops_int0 {g : Int → Int → Int} : OpS L (rI0 fun i j => .int (g i j)) (intD (fun _ _ => true) fun i j => .int (g i j)) := by
  intro F H x y dx dy d Q ex hf rx ry q
  unfold intD at hf
  split at hf
  · rw [if_pos rfl] at hf; cases hf; rw [rx.int, ry.int]; exact ⟨_, _, rfl, rfl, q _ F H (.refl ex) (.int _)⟩
  · cases hf
theorem ops_intB {g : Int → Int → Bool} : OpS L (rI0 fun i j => .bl (g i j)) (intD (fun _ _ => true) fun i j => .bl (g i j)) := by
  intro F H x y dx dy d Q ex hf rx ry q
  unfold intD at hf
  split at hf
  · rw [if_pos rfl] at hf; cases hf; rw [rx.int, ry.int]; exact ⟨_, _, rfl, rfl, q _ F H (.refl ex) (.bl _)⟩
  · cases hf
def subD : D → D → Option D := intD (fun _ _ => true) fun i j => .int (i - j)
theorem ops_sub : OpS L (rI0 fun i j => .int (i - j)) subD := ops_int0
def mulC (i j : Int) : Bool := decide ((-18446744073709551616 < i ∧ i < 18446744073709551616) ∨ (-18446744073709551616 < j ∧ j < 18446744073709551616))
def mulD : D → D → Option D := intD mulC fun i j => .int (i * j)
theorem ops_mul : OpS L (rI CMul fun i j => .int (i * j)) mulD := ops_int fun i j h => by
  have h := of_decide_eq_true h
  show (-(2 ^ 64) < i ∧ i < 2 ^ 64) ∨ (-(2 ^ 64) < j ∧ j < 2 ^ 64)
  omega
def divD : D → D → Option D := intD (fun _ j => decide (0 < j ∧ j < 1073741824)) fun i j => .int (i / j)
theorem ops_div : OpS L (rI CDiv fun i j => .int (i / j)) divD := ops_int fun i j h => (of_decide_eq_true h : 0 < j ∧ j < 1073741824)
def modD : D → D → Option D := intD (fun _ j => decide (0 < j)) fun i j => .int (i % j)
theorem ops_mod : OpS L (rI (fun _ j => 0 < j) fun i j => .int (i % j)) modD := ops_int fun i j h => of_decide_eq_true h
def powD : D → D → Option D := intD (fun i j => decide (0 ≤ j ∧ j ≤ 1000000 ∧ i.natAbs < 18446744073709551616)) fun i j => .int (i ^ j.toNat)
theorem ops_pow : OpS L (rI CPow fun i j => .int (i ^ j.toNat)) powD := ops_int fun i j h => by
  have h := of_decide_eq_true h
  show 0 ≤ j ∧ j ≤ 1000000 ∧ i.natAbs < 2 ^ 64
  omega

/-! ### lists joined, repeated -/
def catF : D → D → Option (List D)
  | .lst xs, .lst ys => if xs.length + ys.length ≤ 16777216 then some (xs ++ ys) else none
  | _, _ => none
theorem opf_cat : OpF L rCat catF := by
  intro F H x y dx dy ds Q ex hf rx ry q
  unfold catF at hf
  split at hf
  · split at hf
    · rename_i hl; cases hf
      obtain ⟨a, vs, e1, e2, e3⟩ := rx.lst ex
      obtain ⟨b, ws, e4, e5, e6⟩ := ry.lst ex
      exact ⟨a, b, vs, ws, e1, e4, e2, e5, by rw [line_eq, e3.1, e6.1]; exact hl, fun p hp => q p _ hp (e3.append e6)⟩
    · cases hf
  · cases hf
def repL {α : Type} (xs : List α) : Nat → List α
  | 0 => []
  | n + 1 => xs ++ repL xs n
theorem repL_len {α : Type} (xs : List α) (n : Nat) : (repL xs n).length = xs.length * n := by
  induction n with
  | zero => rfl
  | succ n ih => rw [repL, List.length_append, ih, Nat.mul_succ]; omega
def repF : D → D → Option (List D)
  | .lst xs, .int k => if -4611686018427387904 ≤ k ∧ k < 4611686018427387904 ∧ xs.length * k.toNat ≤ 16777216 then some (List.replicate k.toNat xs).flatten else none
  | _, _ => none

/-! ### comparisons -/
def ltD : D → D → Option D := intD (fun _ _ => true) fun i j => .bl (decide (i < j))
def leD : D → D → Option D := intD (fun _ _ => true) fun i j => .bl (decide (i ≤ j))
def gtD : D → D → Option D := intD (fun _ _ => true) fun i j => .bl (decide (j < i))
def geD : D → D → Option D := intD (fun _ _ => true) fun i j => .bl (decide (j ≤ i))
theorem ops_lt : OpS L (rI0 fun i j => .bl (decide (i < j))) ltD := ops_intB
theorem ops_le : OpS L (rI0 fun i j => .bl (decide (i ≤ j))) leD := ops_intB
theorem ops_gt : OpS L (rI0 fun i j => .bl (decide (j < i))) gtD := ops_intB
theorem ops_ge : OpS L (rI0 fun i j => .bl (decide (j ≤ i))) geD := ops_intB

/-- flat data as values -/
def flatOf : D → Option V
  | .non => some .non
  | .bl b => some (.bl b)
  | .int i => some (.int i)
  | .str x => some (.str x)
  | _ => none
theorem flat_rep {F H : Hp} {v w : V} {d : D} (h : RepR L F H v d) (e : flatOf d = some w) : v = w := by
  cases d with
  | non => cases e; exact h.non
  | bl b => cases e; exact h.bl
  | int i => cases e; exact h.int
  | str x => cases e; exact h.str
  | _ => cases e
theorem flat_flatV {d : D} {w : V} (e : flatOf d = some w) : flatV w = true := by
  cases d <;> first | (cases e; rfl) | cases e
def flatsOf : List D → Option (List V)
  | [] => some []
  | d :: ds => (flatOf d).bind fun v => (flatsOf ds).map (v :: ·)
theorem flats_rep {F : Hp} : ∀ {ds : List D} {vs ws : List V}, Reps L.K F vs ds → flatsOf ds = some ws → vs = ws ∧ ws.all flatV = true
  | [], vs, ws, h, e => by cases e; exact ⟨h.nil_inv, rfl⟩
  | d :: ds, vs, ws, h, e => by
    obtain ⟨w, r, rfl, h1, h2⟩ := h.cons_inv
    unfold flatsOf at e
    cases q : flatOf d with
    | none => rw [q] at e; cases e
    | some v =>
      rw [q, Option.bind_some] at e
      cases q2 : flatsOf ds with
      | none => rw [q2] at e; cases e
      | some us =>
        rw [q2] at e; cases e
        obtain ⟨e1, e2⟩ := flats_rep h2 q2
        have e3 := flat_rep (H := F) (RepR.of h1) q
        subst e1 e3
        exact ⟨rfl, by rw [List.all_cons, flat_flatV q, e2]; rfl⟩
/-! data for == -/
mutual
def toPy : D → Option PyData
  | .non => some .none
  | .bl b => some (.bool b)
  | .int i => some (.int i)
  | .str x => some (.str x)
  | .lst xs => (toPys xs).map .list
  | .tup xs => (toPys xs).map .tuple
  | _ => none
def toPys : List D → Option (List PyData)
  | [] => some []
  | d :: ds => (toPy d).bind fun p => (toPys ds).map (p :: ·)
end
mutual
theorem toPy_dp {F H : Hp} (ex : Ex F H) : ∀ (d : D) (v : V) (p : PyData), Rep L.K F v d → toPy d = some p → Dp L.K H v p
  | .non, v, p, h, e => by cases h; simp [toPy] at e; subst e; exact .non
  | .bl b, v, p, h, e => by cases h; simp [toPy] at e; subst e; exact .bl b
  | .int i, v, p, h, e => by cases h; simp [toPy] at e; subst e; exact .int i
  | .str x, v, p, h, e => by cases h; simp [toPy] at e; subst e; exact .str x
  | .lst ds, v, p, h, e => by
    obtain ⟨a, vs, rfl, h1, h2⟩ := rep_ref_lst h
    simp only [toPy, Option.map_eq_some_iff] at e
    obtain ⟨ps, e1, rfl⟩ := e
    exact .lst (SqL.of (ex _ _ h1)) (toPys_dp ex ds vs ps h2 e1)
  | .tup ds, v, p, h, e => by
    obtain ⟨a, vs, rfl, h1, h2⟩ := rep_ref_tup h
    simp only [toPy, Option.map_eq_some_iff] at e
    obtain ⟨ps, e1, rfl⟩ := e
    exact .tup (ex.st h1) (toPys_dp ex ds vs ps h2 e1)
  | .dk _, _, _, _, e => by simp [toPy] at e
  | .lsx _, _, _, _, e => by simp [toPy] at e
  | .dt _, _, _, _, e => by simp [toPy] at e
  | .obj _ _, _, _, _, e => by simp [toPy] at e
  | .fn _, _, _, _, e => by simp [toPy] at e
theorem toPys_dp {F H : Hp} (ex : Ex F H) : ∀ (ds : List D) (vs : List V) (ps : List PyData), Reps L.K F vs ds → toPys ds = some ps → DpAll L.K H vs ps
  | [], vs, ps, h, e => by simp [toPys] at e; subst e; rw [h.nil_inv]; exact .nil
  | d :: ds, vs, ps, h, e => by
    obtain ⟨w, r, rfl, h1, h2⟩ := h.cons_inv
    simp only [toPys, Option.bind_eq_some_iff, Option.map_eq_some_iff] at e
    obtain ⟨p, e1, qs, e2, rfl⟩ := e
    exact .cons (toPy_dp ex d w p h1 e1) (toPys_dp ex ds r qs h2 e2)
end
theorem toPy_dpR {F H : Hp} (ex : Ex F H) {d : D} {v : V} {p : PyData} (h : RepR L F H v d) (e : toPy d = some p) : Dp L.K H v p := by
  rcases h with h | ⟨a, vs, xs, e1, e2, e3, e4⟩
  · exact toPy_dp ex d v p h e
  · subst e1 e2
    simp only [toPy, Option.map_eq_some_iff] at e
    obtain ⟨ps, e5, rfl⟩ := e
    exact .lst (SqL.of e3) (toPys_dp ex xs vs ps e4 e5)
/-- == : scalars of one kind at once, the rest as data -/
def eqB (x y : D) : Option Bool := match x, y with
  | .int i, .int j => some (decide (i = j))
  | .str i, .str j => some (decide (i = j))
  | .bl i, .bl j => some (decide (i = j))
  | .non, .non => some true
  | .non, .int _ => some false | .non, .str _ => some false | .non, .bl _ => some false
  | .int _, .non => some false | .str _, .non => some false | .bl _, .non => some false
  | .int _, .str _ => some false | .str _, .int _ => some false
  | x, y => match toPy x, toPy y with
    | some p, some q => if SeqAt.shaped p && SeqAt.shaped q then some (PyData.eqv p q) else none
    | _, _ => none
def eqD (x y : D) : Option D := (eqB x y).map .bl
def neD (x y : D) : Option D := (eqB x y).map fun b => .bl (!b)
def rEqA (K : PySem.W.Frag) : R2 := fun x y H Q => rEq x y H Q ∨ rEqD K x y H Q
def rNeA (K : PySem.W.Frag) : R2 := fun x y H Q => rNe x y H Q ∨ rNeD K x y H Q
theorem eqB_ok {F H : Hp} {x y : V} {dx dy : D} {b : Bool} (ex : Ex F H) (hf : eqB dx dy = some b) (rx : RepR L F H x dx) (ry : RepR L F H y dy) :
    (scal x y = true ∧ decide (x = y) = b) ∨ ∃ d e, Dp L.K H x d ∧ Dp L.K H y e ∧ SeqAt.shaped d = true ∧ SeqAt.shaped e = true ∧ PyData.eqv d e = b := by
  unfold eqB at hf
  split at hf
  · cases hf; rw [rx.int, ry.int]; exact .inl ⟨rfl, by simp⟩
  · cases hf; rw [rx.str, ry.str]; exact .inl ⟨rfl, by simp⟩
  · cases hf; rw [rx.bl, ry.bl]; exact .inl ⟨rfl, by simp⟩
  · cases hf; rw [rx.non, ry.non]; exact .inl ⟨rfl, by simp⟩
  · cases hf; rw [rx.non, ry.int]; exact .inl ⟨rfl, by simp⟩
  · cases hf; rw [rx.non, ry.str]; exact .inl ⟨rfl, by simp⟩
  · cases hf; rw [rx.non, ry.bl]; exact .inl ⟨rfl, by simp⟩
  · cases hf; rw [rx.int, ry.non]; exact .inl ⟨rfl, by simp⟩
  · cases hf; rw [rx.str, ry.non]; exact .inl ⟨rfl, by simp⟩
  · cases hf; rw [rx.bl, ry.non]; exact .inl ⟨rfl, by simp⟩
  · cases hf; rw [rx.int, ry.str]; exact .inl ⟨rfl, by simp⟩
  · cases hf; rw [rx.str, ry.int]; exact .inl ⟨rfl, by simp⟩
  · split at hf
    · rename_i p q e1 e2
      split at hf
      · rename_i hs; cases hf
        have hs := Bool.and_eq_true_iff.mp hs
        exact .inr ⟨p, q, toPy_dpR ex rx e1, toPy_dpR ex ry e2, hs.1, hs.2, rfl⟩
      · cases hf
    · cases hf
theorem op_eqA (hu : X.A.units + 64 < cLine) : OpR X (compareOp .Eq) (rEqA X.K) := opr_or op_eq (op_eqD hu)
theorem op_neA (hu : X.A.units + 64 < cLine) : OpR X (compareOp .NotEq) (rNeA X.K) := opr_or op_ne (op_neD hu)
theorem ops_eq : OpS L (rEqA L.K) eqD := by
  intro F H x y dx dy d Q ex hf rx ry q
  obtain ⟨b, hb, rfl⟩ := Option.map_eq_some_iff.mp hf
  have q' := q _ F H (.refl ex) (.bl b)
  rcases eqB_ok ex hb rx ry with ⟨h1, h2⟩ | ⟨d, e, h1, h2, h3, h4, h5⟩
  · exact .inl ⟨h1, by rw [h2]; exact q'⟩
  · exact .inr ⟨d, e, h1, h2, h3, h4, by rw [h5]; exact q'⟩
theorem ops_ne : OpS L (rNeA L.K) neD := by
  intro F H x y dx dy d Q ex hf rx ry q
  obtain ⟨b, hb, rfl⟩ := Option.map_eq_some_iff.mp hf
  have q' := q _ F H (.refl ex) (.bl !b)
  rcases eqB_ok ex hb rx ry with ⟨h1, h2⟩ | ⟨d, e, h1, h2, h3, h4, h5⟩
  · exact .inl ⟨h1, by rw [h2]; exact q'⟩
  · exact .inr ⟨d, e, h1, h2, h3, h4, by rw [h5]; exact q'⟩

/-! ### in -/
def inB (x y : D) : Option Bool := match y with
  | .str z => match x with
    | .str c => if c.cps.size = 1 then some (decide (c.cps.getD 0 0 ∈ z.cps.toList)) else none
    | _ => none
  | .lst ds => (flatOf x).bind fun v => (flatsOf ds).map fun vs => inV v vs
  | .tup ds => (flatOf x).bind fun v => (flatsOf ds).map fun vs => inV v vs
  | _ => none
def inD (x y : D) : Option D := (inB x y).map .bl
def ninD (x y : D) : Option D := (inB x y).map fun b => .bl (!b)
def rInA (K : PySem.W.Frag) : R2 := fun x y H Q => rIn K false x y H Q ∨ ∃ (c : Nat) (z : Str), x = .str ⟨#[c]⟩ ∧ y = .str z ∧ Q (.bl (decide (c ∈ z.cps.toList))) H
def rNinA (K : PySem.W.Frag) : R2 := fun x y H Q => rIn K true x y H Q ∨ ∃ (c : Nat) (z : Str), x = .str ⟨#[c]⟩ ∧ y = .str z ∧ Q (.bl (!decide (c ∈ z.cps.toList))) H
theorem op_inA : OpR X (compareOp .In) (rInA X.K) := opr_or op_in_seq op_in_sign
theorem op_ninA : OpR X (compareOp .NotIn) (rNinA X.K) := opr_or op_notIn_seq op_notIn_sign
theorem one_sign {c : Str} (h : c.cps.size = 1) : c = ⟨#[c.cps.getD 0 0]⟩ := by
  obtain ⟨a⟩ := c
  obtain ⟨l⟩ := a
  simp only [List.size_toArray] at h
  match l, h with
  | [x], _ => rfl
theorem inB_ok {F H : Hp} {x y : V} {dx dy : D} {b : Bool} (ex : Ex F H) (hf : inB dx dy = some b) (rx : RepR L F H x dx) (ry : RepR L F H y dy) :
    (∃ p xs, y = .ref p ∧ (SqL L.K H p xs ∨ SqT L.K H p xs) ∧ flatV x = true ∧ xs.all flatV = true ∧ inV x xs = b) ∨ ∃ (c : Nat) (z : Str), x = .str ⟨#[c]⟩ ∧ y = .str z ∧ decide (c ∈ z.cps.toList) = b := by
  unfold inB at hf
  split at hf
  · split at hf
    · split at hf
      · rename_i h; cases hf; rw [rx.str, ry.str]; exact .inr ⟨_, _, congrArg V.str (one_sign h), rfl, rfl⟩
      · cases hf
    · cases hf
  · simp only [Option.bind_eq_some_iff, Option.map_eq_some_iff] at hf
    obtain ⟨v, h1, vs, h2, rfl⟩ := hf
    obtain ⟨a, ws, e1, e2, e3⟩ := ry.lst ex
    obtain ⟨rfl, e5⟩ := flats_rep e3 h2
    rw [flat_rep rx h1]
    exact .inl ⟨a, ws, e1, .inl (SqL.of e2), flat_flatV h1, e5, rfl⟩
  · simp only [Option.bind_eq_some_iff, Option.map_eq_some_iff] at hf
    obtain ⟨v, h1, vs, h2, rfl⟩ := hf
    obtain ⟨a, ws, e1, e2, e3⟩ := ry.tup ex
    obtain ⟨rfl, e5⟩ := flats_rep e3 h2
    rw [flat_rep rx h1]
    exact .inl ⟨a, ws, e1, .inr e2, flat_flatV h1, e5, rfl⟩
  · cases hf
theorem ops_in : OpS L (rInA L.K) inD := by
  intro F H x y dx dy d Q ex hf rx ry q
  obtain ⟨b, hb, rfl⟩ := Option.map_eq_some_iff.mp hf
  have q' := q _ F H (.refl ex) (.bl b)
  rcases inB_ok ex hb rx ry with ⟨p, xs, h1, h2, h3, h4, h5⟩ | ⟨c, z, h1, h2, h3⟩
  · exact .inl ⟨p, xs, h1, h2, h3, h4, by rw [if_neg Bool.false_ne_true, h5]; exact q'⟩
  · exact .inr ⟨c, z, h1, h2, by rw [h3]; exact q'⟩
theorem ops_nin : OpS L (rNinA L.K) ninD := by
  intro F H x y dx dy d Q ex hf rx ry q
  obtain ⟨b, hb, rfl⟩ := Option.map_eq_some_iff.mp hf
  have q' := q _ F H (.refl ex) (.bl !b)
  rcases inB_ok ex hb rx ry with ⟨p, xs, h1, h2, h3, h4, h5⟩ | ⟨c, z, h1, h2, h3⟩
  · exact .inl ⟨p, xs, h1, h2, h3, h4, by rw [if_pos rfl, h5]; exact q'⟩
  · exact .inr ⟨c, z, h1, h2, by rw [h3]; exact q'⟩

/-! ### is None -/
def isNonD : D → D → Option D
  | .non, .non => some (.bl true)
  | .bl _, .non => some (.bl false) | .int _, .non => some (.bl false) | .str _, .non => some (.bl false)
  | .lst _, .non => some (.bl false) | .tup _, .non => some (.bl false) | .obj _ _, .non => some (.bl false) | .dk _, .non => some (.bl false)
  | _, _ => none
def isB : D → D → Option Bool
  | .non, .non => some true
  | .bl _, .non => some false | .int _, .non => some false | .str _, .non => some false
  | .lst _, .non => some false | .tup _, .non => some false | .obj _ _, .non => some false | .dk _, .non => some false
  | _, _ => none
theorem isB_ok {F H : Hp} {x y : V} {dx dy : D} {b : Bool} (hf : isB dx dy = some b) (rx : RepR L F H x dx) (ry : RepR L F H y dy) : y = .non ∧ decide (x = .non) = b := by
  have hx : ∀ {d : D}, RepR L F H x d → (∃ xs, d = .lst xs) ∨ (∃ xs, d = .tup xs) ∨ (∃ C fs, d = .obj C fs) ∨ (∃ k, d = .dk k) → decide (x = .non) = false := fun {d} r h => by
    have : ∃ a, x = .ref a := by
      rcases r with r | ⟨a, vs, xs, e1, _⟩
      · rcases h with ⟨xs, rfl⟩ | ⟨xs, rfl⟩ | ⟨C, fs, rfl⟩ | ⟨k, rfl⟩ <;> cases r <;> exact ⟨_, rfl⟩
      · exact ⟨a, e1⟩
    obtain ⟨a, rfl⟩ := this
    rfl
  unfold isB at hf
  split at hf
  · cases hf; rw [rx.non]; exact ⟨ry.non, rfl⟩
  · cases hf; rw [rx.bl]; exact ⟨ry.non, rfl⟩
  · cases hf; rw [rx.int]; exact ⟨ry.non, rfl⟩
  · cases hf; rw [rx.str]; exact ⟨ry.non, rfl⟩
  · cases hf; exact ⟨ry.non, hx rx (.inl ⟨_, rfl⟩)⟩
  · cases hf; exact ⟨ry.non, hx rx (.inr (.inl ⟨_, rfl⟩))⟩
  · cases hf; exact ⟨ry.non, hx rx (.inr (.inr (.inl ⟨_, _, rfl⟩)))⟩
  · cases hf; exact ⟨ry.non, hx rx (.inr (.inr (.inr ⟨_, rfl⟩)))⟩
  · cases hf
def isD (x y : D) : Option D := (isB x y).map .bl
def isntD (x y : D) : Option D := (isB x y).map fun b => .bl (!b)
theorem ops_is : OpS L (fun x y H Q => y = .non ∧ Q (.bl (decide (x = .non))) H) isD := by
  intro F H x y dx dy d Q ex hf rx ry q
  obtain ⟨b, hb, rfl⟩ := Option.map_eq_some_iff.mp hf
  obtain ⟨h1, h2⟩ := isB_ok hb rx ry
  exact ⟨h1, by rw [h2]; exact q _ F H (.refl ex) (.bl b)⟩
theorem ops_isnt : OpS L (fun x y H Q => y = .non ∧ Q (.bl (!decide (x = .non))) H) isntD := by
  intro F H x y dx dy d Q ex hf rx ry q
  obtain ⟨b, hb, rfl⟩ := Option.map_eq_some_iff.mp hf
  obtain ⟨h1, h2⟩ := isB_ok hb rx ry
  exact ⟨h1, by rw [h2]; exact q _ F H (.refl ex) (.bl !b)⟩

/-! ### a place of a sequence -/
def ixD : D → D → Option D
  | .lst xs, .int i => atI xs i
  | .tup xs, .int i => atI xs i
  | .lsx xs, .int i => atI xs i
  | .str z, .int i => if z.length ≤ 16777216 then (atI z.cps.toList i).map fun c => .str ⟨#[c]⟩ else none
  | _, _ => none
theorem atI_reps {F : Hp} {vs : List V} {ds : List D} {i : Int} {d : D} (h : Reps L.K F vs ds) (e : atI ds i = some d) : ∃ v, atI vs i = some v ∧ Rep L.K F v d := by
  unfold atI at e ⊢
  rw [h.1]
  cases q : ixN ds.length i with
  | none => rw [q] at e; cases e
  | some j => rw [q, Option.bind_some] at e; rw [Option.bind_some]; exact h.get e
theorem ops_ix : OpS L (rIx L.K) ixD := by
  intro F H x y dx dy d Q ex hf rx ry q
  unfold ixD at hf
  split at hf
  · obtain ⟨a, vs, e1, e2, e3⟩ := rx.lst ex
    obtain ⟨v, h1, h2⟩ := atI_reps e3 hf
    exact .inl ⟨a, vs, _, v, e1, ry.int, SqL.of e2, h1, q v F H (.refl ex) h2⟩
  · obtain ⟨a, vs, e1, e2, e3⟩ := rx.tup ex
    obtain ⟨v, h1, h2⟩ := atI_reps e3 hf
    exact .inr (.inl ⟨a, vs, _, v, e1, ry.int, e2, h1, q v F H (.refl ex) h2⟩)
  · obtain ⟨a, vs, e1, e2, e3⟩ := rx.lsx ex
    obtain ⟨v, h1, h2⟩ := atI_reps e3 hf
    exact .inl ⟨a, vs, _, v, e1, ry.int, e2, h1, q v F H (.refl ex) h2⟩
  · split at hf
    · rename_i hl
      obtain ⟨c, h1, rfl⟩ := Option.map_eq_some_iff.mp hf
      exact .inr (.inr ⟨_, _, c, rx.str, ry.int, by rw [line_eq]; exact hl, h1, q _ F H (.refl ex) (.str _)⟩)
    · cases hf
  · cases hf
end
end KL
/-! KL, part d: expressions put together. -/
namespace KL
open PySem L2

section
variable {X : Cx} {L : Lx} {W : WX} {σ : L2.St} {Δ Δ' : DEnv} {F H : Hp} {a b c e : Expr} {es : List Expr} {ma mb mc me : DEnv → Res D} {pos p : Pos} {x : Str} {i : Nat}
/-! ### two operands -/
theorem d_bin {op : Operator} {r : R2} {f : D → D → Option D} (ho : OpR X (binaryOp op) r) (hf : OpS L r f) (ha : DE X L W a ma) (hb : DR X L W b mb) : DE X L W (.BinOp a op b pos) (opM f ma mb) :=
  let ⟨_, p1, s1⟩ := ha.ex
  let ⟨_, p2, s2⟩ := hb.ex
  ⟨_, pe_op ho p1 p2, snd_op hf s1 s2⟩
theorem d_binV {op : Operator} {r : R2} {f : D → D → Option D} (ho : OpR X (binaryOp op) r) (hf : OpS L r f) (hN : X.N[i]? = some x) (hv : Vis X.env.scope x) (hd : (x == ("__debug__" : Str)) = false) (hcd : (x == ("__classdict__" : Str)) = false) (hb : DR X L W b mb) :
    DE X L W (.BinOp (.Name x p) op b pos) (opV f i mb) :=
  let ⟨_, p2, s2⟩ := hb.ex
  ⟨_, pe_op ho (pe_var hN hv hd hcd) p2, snd_opV hf s2⟩
theorem d_cmp {op : CmpOp} {r : R2} {f : D → D → Option D} (ho : OpR X (compareOp op) r) (hf : OpS L r f) (hm : behindInMarks op b = false) (ha : DE X L W a ma) (hb : DR X L W b mb) : DE X L W (.Compare a [op] [b] pos) (opM f ma mb) :=
  let ⟨_, p1, s1⟩ := ha.ex
  let ⟨_, p2, s2⟩ := hb.ex
  ⟨_, pe_cmpR ho p1 p2 hm, snd_op hf s1 s2⟩
theorem d_cmpV {op : CmpOp} {r : R2} {f : D → D → Option D} (ho : OpR X (compareOp op) r) (hf : OpS L r f) (hm : behindInMarks op b = false) (hN : X.N[i]? = some x) (hv : Vis X.env.scope x) (hd : (x == ("__debug__" : Str)) = false) (hcd : (x == ("__classdict__" : Str)) = false) (hb : DR X L W b mb) :
    DE X L W (.Compare (.Name x p) [op] [b] pos) (opV f i mb) :=
  let ⟨_, p2, s2⟩ := hb.ex
  ⟨_, pe_cmpR ho (pe_var hN hv hd hcd) p2 hm, snd_opV hf s2⟩
theorem d_ix (hs : PlainIx b) (ha : DE X L W a ma) (hb : DR X L W b mb) (hk : L.K = X.K := by rfl) : DE X L W (.Subscript a b pos) (opM ixD ma mb) :=
  let ⟨_, p1, s1⟩ := ha.ex
  let ⟨_, p2, s2⟩ := hb.ex
  ⟨_, pe_ix ix_seq p1 p2 hs, snd_op (hk ▸ ops_ix) s1 s2⟩
theorem d_ixV (hs : PlainIx b) (hN : X.N[i]? = some x) (hv : Vis X.env.scope x) (hd : (x == ("__debug__" : Str)) = false) (hcd : (x == ("__classdict__" : Str)) = false) (hb : DR X L W b mb) (hk : L.K = X.K := by rfl) :
    DE X L W (.Subscript (.Name x p) b pos) (opV ixD i mb) :=
  let ⟨_, p2, s2⟩ := hb.ex
  ⟨_, pe_ix ix_seq (pe_var hN hv hd hcd) p2 hs, snd_opV (hk ▸ ops_ix) s2⟩

/-! ### tests -/
def asB (m : DEnv → Res D) : DEnv → Res Bool := fun Δ => (m Δ).bind fun d Δ1 => match d with
  | .bl b => .ok b Δ1
  | _ => .stuck
theorem snd_asB {te : TE} {m : DEnv → Res D} (h : Snd L W te m) : SndT L W (tTest te) (asB m) := by
  intro σ Δ F H Q env w
  refine h σ Δ F H _ env (w.bind.mono fun d Δ' F' H' env' q v r => ?_)
  cases d with
  | bl b => cases r; exact ⟨b, rfl, q F' H' env' .refl⟩
  | _ => exact q.elim
theorem t_cmp {op : CmpOp} {r : R2} {f : D → D → Option D} (ho : OpR X (compareOp op) r) (hf : OpS L r f) (hm : behindInMarks op b = false) (ha : DE X L W a ma) (hb : DR X L W b mb) : DT X L W (.Compare a [op] [b] pos) (asB (opM f ma mb)) :=
  let ⟨_, p1, s1⟩ := ha.ex
  let ⟨_, p2, s2⟩ := hb.ex
  ⟨_, pt_cmpR ho p1 p2 hm, snd_asB (snd_op hf s1 s2)⟩
theorem t_cmpV {op : CmpOp} {r : R2} {f : D → D → Option D} (ho : OpR X (compareOp op) r) (hf : OpS L r f) (hm : behindInMarks op b = false) (hN : X.N[i]? = some x) (hv : Vis X.env.scope x) (hd : (x == ("__debug__" : Str)) = false) (hcd : (x == ("__classdict__" : Str)) = false) (hb : DR X L W b mb) :
    DT X L W (.Compare (.Name x p) [op] [b] pos) (asB (opV f i mb)) :=
  let ⟨_, p2, s2⟩ := hb.ex
  ⟨_, pt_cmpR ho (pe_var hN hv hd hcd) p2 hm, snd_asB (snd_opV hf s2)⟩
/-- truth -/
def truD : D → Option Bool
  | .non => some false
  | .bl b => some b
  | .int i => some (i != 0)
  | .str x => if x.length ≤ 16777216 then some ((x.length : Int) != 0) else none
  | .lst xs => some (!xs.isEmpty)
  | .tup xs => some (!xs.isEmpty)
  | _ => none
def truM (m : DEnv → Res D) : DEnv → Res Bool := fun Δ => (m Δ).bind fun d Δ1 => .opt (truD d) Δ1
theorem isEmpty_len {α β : Type} {xs : List α} {ys : List β} (h : xs.length = ys.length) : xs.isEmpty = ys.isEmpty := by
  cases xs <;> cases ys <;> simp_all
theorem truD_ok {v : V} {d : D} {k : Bool} (ex : Ex F H) (hf : truD d = some k) (r : RepR L F H v d) : TruV L.K v H k := by
  cases d with
  | non => cases hf; rw [r.non]; exact rfl
  | bl b => cases hf; rw [r.bl]; exact rfl
  | int i => cases hf; rw [r.int]; exact rfl
  | str x =>
    replace hf : (if x.length ≤ 16777216 then some ((x.length : Int) != 0) else none) = some k := hf
    split at hf
    · rename_i hl; cases hf; rw [r.str]; exact ⟨by rw [line_eq]; exact hl, rfl⟩
    · cases hf
  | lst xs =>
    cases hf
    obtain ⟨a, vs, rfl, h1, h2⟩ := r.lst ex
    exact .inl ⟨vs, SqL.of h1, by rw [isEmpty_len h2.1]⟩
  | tup xs =>
    cases hf
    obtain ⟨a, vs, rfl, h1, h2⟩ := r.tup ex
    exact .inr (.inl ⟨vs, h1, by rw [isEmpty_len h2.1]⟩)
  | _ => cases hf
theorem t_truth (h : DR X L W e me) (he : ∀ whole, isTrue e X.env whole = (do let v ← whole; standAt e.pos; holding [v] (truthy v))) (hk : L.K = X.K := by rfl) : DT X L W e (truM me) := by
  obtain ⟨te, p1, s1⟩ := h.ex
  refine ⟨_, pt_truth p1 he, ?_⟩
  intro σ Δ F H Q env w
  refine s1 σ Δ F H _ env (w.bind.mono fun d Δ' F' H' env' q v r => ?_)
  cases g : truD d with
  | none => rw [g] at q; exact q.elim
  | some k => rw [g] at q; exact ⟨k, hk ▸ truD_ok env'.ex g r, q F' H' env' .refl⟩
def notM (m : DEnv → Res Bool) : DEnv → Res Bool := fun Δ => (m Δ).map (!·)
theorem t_not {m : DEnv → Res Bool} (h : DT X L W e m) : DT X L W (.UnaryOp .Not e pos) (notM m) := by
  obtain ⟨te, p1, s1⟩ := h.ex
  refine ⟨_, pt_not p1, fun σ Δ F H Q env w => ?_⟩
  exact s1 σ Δ F H _ env (w.bind.mono fun d Δ' F' H' env' q => q F' H' env' .refl)
structure DW (X : Cx) (L : Lx) (W : WX) (e : Expr) (m : DEnv → Res Bool) : Prop where ex : ∃ tt, PW X e tt ∧ SndT L W tt m
theorem DW.t {m : DEnv → Res Bool} (h : DW X L W e m) : DT X L W e m := ⟨let ⟨_, p1, s1⟩ := h.ex; ⟨_, p1.pt, s1⟩⟩
def andM (m n : DEnv → Res Bool) : DEnv → Res Bool := fun Δ => (m Δ).bind fun c Δ1 => if c = true then n Δ1 else .ok false Δ1
def orM (m n : DEnv → Res Bool) : DEnv → Res Bool := fun Δ => (m Δ).bind fun c Δ1 => if c = true then .ok true Δ1 else n Δ1
theorem w_and1 {m : DEnv → Res Bool} (h : DT X L W a m) : DW X L W (.BoolOp .And [a] pos) m := ⟨let ⟨_, p1, s1⟩ := h.ex; ⟨_, pw_and1 p1, s1⟩⟩
theorem w_or1 {m : DEnv → Res Bool} (h : DT X L W a m) : DW X L W (.BoolOp .Or [a] pos) m := ⟨let ⟨_, p1, s1⟩ := h.ex; ⟨_, pw_or1 p1, s1⟩⟩
theorem w_and {m n : DEnv → Res Bool} (h : DT X L W a m) (h2 : DW X L W (.BoolOp .And (b :: es) pos) n) : DW X L W (.BoolOp .And (a :: b :: es) pos) (andM m n) := by
  obtain ⟨_, p1, s1⟩ := h.ex
  obtain ⟨_, p2, s2⟩ := h2.ex
  refine ⟨_, pw_and p1 p2, fun σ Δ F H Q env w => ?_⟩
  refine s1 σ Δ F H _ env (w.bind.mono fun k Δ' F' H' env' q => ?_)
  cases k with
  | true => exact s2 σ Δ' F' H' Q env' q
  | false => exact q F' H' env' .refl
theorem w_or {m n : DEnv → Res Bool} (h : DT X L W a m) (h2 : DW X L W (.BoolOp .Or (b :: es) pos) n) : DW X L W (.BoolOp .Or (a :: b :: es) pos) (orM m n) := by
  obtain ⟨_, p1, s1⟩ := h.ex
  obtain ⟨_, p2, s2⟩ := h2.ex
  refine ⟨_, pw_or p1 p2, fun σ Δ F H Q env w => ?_⟩
  refine s1 σ Δ F H _ env (w.bind.mono fun k Δ' F' H' env' q => ?_)
  cases k with
  | true => exact q F' H' env' .refl
  | false => exact s2 σ Δ' F' H' Q env' q
/-! as values: bools -/
def andV (m n : DEnv → Res D) : DEnv → Res D := fun Δ => (m Δ).bind fun d Δ1 => match d with
  | .bl true => n Δ1
  | .bl false => .ok (.bl false) Δ1
  | _ => .stuck
def orV (m n : DEnv → Res D) : DEnv → Res D := fun Δ => (m Δ).bind fun d Δ1 => match d with
  | .bl true => .ok (.bl true) Δ1
  | .bl false => n Δ1
  | _ => .stuck
def notV (m : DEnv → Res D) : DEnv → Res D := fun Δ => (m Δ).bind fun d Δ1 => match d with
  | .bl b => .ok (.bl !b) Δ1
  | _ => .stuck
theorem d_one {op : BoolOp} (h : DE X L W a ma) : DE X L W (.BoolOp op [a] pos) ma := ⟨let ⟨_, p1, s1⟩ := h.ex; ⟨_, pe_one p1, s1⟩⟩
theorem d_and (h : DE X L W a ma) (h2 : DE X L W (.BoolOp .And (b :: es) pos) mb) : DE X L W (.BoolOp .And (a :: b :: es) pos) (andV ma mb) := by
  obtain ⟨_, p1, s1⟩ := h.ex
  obtain ⟨_, p2, s2⟩ := h2.ex
  refine ⟨_, pe_and p1 p2, fun σ Δ F H Q env w => ?_⟩
  refine s1 σ Δ F H _ env (w.bind.mono fun d Δ' F' H' env' q v r => ?_)
  cases d with
  | bl k =>
    cases r
    refine ⟨k, rfl, ?_⟩
    cases k with
    | true => exact s2 σ Δ' F' H' Q env' q
    | false => exact q F' H' env' .refl _ (.bl false)
  | _ => exact q.elim
theorem d_or (h : DE X L W a ma) (h2 : DE X L W (.BoolOp .Or (b :: es) pos) mb) : DE X L W (.BoolOp .Or (a :: b :: es) pos) (orV ma mb) := by
  obtain ⟨_, p1, s1⟩ := h.ex
  obtain ⟨_, p2, s2⟩ := h2.ex
  refine ⟨_, pe_or p1 p2, fun σ Δ F H Q env w => ?_⟩
  refine s1 σ Δ F H _ env (w.bind.mono fun d Δ' F' H' env' q v r => ?_)
  cases d with
  | bl k =>
    cases r
    refine ⟨k, rfl, ?_⟩
    cases k with
    | true => exact q F' H' env' .refl _ (.bl true)
    | false => exact s2 σ Δ' F' H' Q env' q
  | _ => exact q.elim
theorem d_not (h : DE X L W a ma) : DE X L W (.UnaryOp .Not a pos) (notV ma) := by
  obtain ⟨_, p1, s1⟩ := h.ex
  refine ⟨_, pe_not p1, fun σ Δ F H Q env w => ?_⟩
  refine s1 σ Δ F H _ env (w.bind.mono fun d Δ' F' H' env' q v r => ?_)
  cases d with
  | bl k => cases r; exact ⟨k, rfl, q F' H' env' .refl _ (.bl _)⟩
  | _ => exact q.elim
def ifM {α : Type} (c : DEnv → Res Bool) (m n : DEnv → Res α) : DEnv → Res α := fun Δ => (c Δ).bind fun k Δ1 => if k = true then m Δ1 else n Δ1
theorem d_if {mt : DEnv → Res Bool} (ht : DT X L W c mt) (ha : DE X L W a ma) (hb : DE X L W b mb) : DE X L W (.IfExp c a b pos) (ifM mt ma mb) := by
  obtain ⟨_, p0, s0⟩ := ht.ex
  obtain ⟨_, p1, s1⟩ := ha.ex
  obtain ⟨_, p2, s2⟩ := hb.ex
  refine ⟨_, pe_ifExp p0 p1 p2, fun σ Δ F H Q env w => ?_⟩
  refine s0 σ Δ F H _ env (w.bind.mono fun k Δ' F' H' env' q => ?_)
  cases k with
  | true => exact s1 σ Δ' F' H' Q env' q
  | false => exact s2 σ Δ' F' H' Q env' q

/-! ### arguments, displays -/
theorem a_nil : DA X L W [] (fun Δ => .ok [] Δ) := ⟨_, pa_nil, fun σ Δ F H Q env w => w F H env .refl [] .nil⟩
def consM (m : DEnv → Res D) (n : DEnv → Res (List D)) : DEnv → Res (List D) := fun Δ => (m Δ).bind fun d Δ1 => (n Δ1).map (d :: ·)
theorem a_cons {n : DEnv → Res (List D)} (h : DE X L W e me) (hs : DA X L W es n) (hst : starEach (e :: es) X.env = (false, eval e X.env) :: starEach es X.env := by rfl) : DA X L W (e :: es) (consM me n) := by
  obtain ⟨_, p1, s1⟩ := h.ex
  obtain ⟨_, p2, s2⟩ := hs.ex
  refine ⟨_, pa_cons p1 p2 hst, fun σ Δ F H Q env w => ?_⟩
  refine s1 σ Δ F H _ env (w.bind.mono fun d Δ1 F1 H1 env1 w1 v r => ?_)
  refine s2 σ Δ1 F1 H1 _ env1 ?_
  have w2 : Want L W σ Δ1 F1 H1 ((n Δ1).map (d :: ·)) _ := w1
  cases q : n Δ1 with
  | stuck => rw [q] at w2; exact w2
  | ex x Δ' => rw [q] at w2; exact w2
  | ok ds Δ2 =>
    rw [q] at w2
    intro F2 H2 env2 st2 vs rs
    exact w2 F2 H2 env2 st2 (v :: vs) (.cons (r.mono st2.fr) rs)
def gd {α : Type} (c : Bool) (r : Res α) : Res α := if c = true then r else .stuck
def tupM (n : DEnv → Res (List D)) : DEnv → Res D := fun Δ => (n Δ).bind fun ds Δ1 => gd (decide (ds.length ≤ 16777216)) (.ok (.tup ds) Δ1)
theorem d_tup {n : DEnv → Res (List D)} {x1} (h : DA X L W es n) : DE X L W (.Tuple es x1 pos) (tupM n) := by
  obtain ⟨_, p1, s1⟩ := h.ex
  refine ⟨_, pe_tup p1, fun σ Δ F H Q env w => ?_⟩
  refine s1 σ Δ F H _ env (w.bind.mono fun ds Δ1 F1 H1 env1 w1 vs rs => ?_)
  unfold gd at w1
  split at w1
  · rename_i hl
    refine ⟨by rw [line_eq, rs.1]; exact of_decide_eq_true hl, fun p hp => ?_⟩
    have g : Gro F1 H1 _ _ := .new (o := .tup vs) env1.ex hp
    exact w1 _ _ (env1.gro g) (.gro g) _ (.tup (SqT.of upd_same) rs.1 fun i v d h1 h2 => (rs.2 i v d h1 h2).mono g.f)
  · exact w1.elim
def lstM (n : DEnv → Res (List D)) : DEnv → Res (List D) := fun Δ => (n Δ).bind fun ds Δ1 => gd (decide (ds.length ≤ 16777216)) (.ok ds Δ1)
theorem f_lst {n : DEnv → Res (List D)} (h : DA X L W es n) : DF X L W (.List es pos) (lstM n) := by
  obtain ⟨_, p1, s1⟩ := h.ex
  refine ⟨_, pe_lst p1, fun σ Δ F H Q env w => ?_⟩
  refine s1 σ Δ F H _ env ?_
  have w0 : Want L W σ Δ F H (lstM n Δ) _ := w
  unfold lstM at w0
  cases q : n Δ with
  | stuck => rw [q] at w0; exact w0
  | ex x Δ' => rw [q] at w0; exact w0
  | ok ds Δ1 =>
    rw [q] at w0
    intro F1 H1 env1 st1 vs rs
    have w1 : Want L W σ Δ F H (gd (decide (ds.length ≤ 16777216)) (.ok ds Δ1)) _ := w0
    unfold gd at w1
    split at w1
    · rename_i hl
      refine ⟨by rw [line_eq, rs.1]; exact of_decide_eq_true hl, fun p hp => ?_⟩
      obtain ⟨a1, a2, a3, a4⟩ := fresh_env (vs := vs) env1 hp
      exact w1 F1 _ a1 (st1.trans a2) p vs (st1.hn hp) a3 a4 upd_same rs
    · exact w1.elim

/-! ### built-ins of one argument -/
def CallS1 (L : Lx) (r : List V → Hp → VK → Prop) (g : D → Option D) : Prop := ∀ (F H : Hp) (v : V) (d z : D) (Q : VK), Ex F H → g d = some z → RepR L F H v d → (∀ u F' H', Gro F H F' H' → Rep L.K F' u z → Q u H') → r [v] H Q
def call1 (g : D → Option D) (m : DEnv → Res D) : DEnv → Res D := fun Δ => (m Δ).bind fun d Δ1 => .opt (g d) Δ1
theorem snd_call1 {r : List V → Hp → VK → Prop} {g : D → Option D} {te : TE} (hs : CallS1 L r g) (h : SndR L W te me) : Snd L W (tCB r (tCons te tNil)) (call1 g me) := by
  intro σ Δ F H Q env w
  refine h σ Δ F H _ env (w.bind.mono fun d Δ1 F1 H1 env1 w1 v rv => ?_)
  cases q : g d with
  | none => rw [q] at w1; exact w1.elim
  | some z => rw [q] at w1; exact hs F1 H1 v d z Q env1.ex q rv fun u F' H' gr ru => w1 F' H' (env1.gro gr) (.gro gr) u ru
theorem d_callB1 {r : List V → Hp → VK → Prop} {g : D → Option D} {id : String} (hc : CallR X (.builtin id) r) (hs : CallS1 L r g) (hg : Gl X x) (hm : X.mg x = none) (hv : bootBuiltins x = some (.builtin id)) (hn : x ≠ "__name__") (hdb : (x == ("__debug__" : Str)) = false) (h : DR X L W e me)
    (hst : starEach (e :: []) X.env = (false, eval e X.env) :: starEach [] X.env := by rfl) (hpl : (backTo pos (starEach [] X.env)).any (·.1) = false := by rfl) : DE X L W (.Call (.Name x p) [e] [] pos) (call1 g me) :=
  let ⟨_, p1, s1⟩ := h.ex
  ⟨_, pe_callB hc hg hm hv (pa_cons p1 pa_nil hst) hn hdb hst hpl, snd_call1 hs s1⟩
theorem d_callT1 {r : List V → Hp → VK → Prop} {g : D → Option D} {T : String} (hc : CallR X (.type T) r) (hs : CallS1 L r g) (hg : Gl X x) (hm : X.mg x = none) (hv : bootBuiltins x = some (.type T)) (hn : x ≠ "__name__") (hdb : (x == ("__debug__" : Str)) = false) (h : DR X L W e me)
    (hst : starEach (e :: []) X.env = (false, eval e X.env) :: starEach [] X.env := by rfl) (hpl : (backTo pos (starEach [] X.env)).any (·.1) = false := by rfl) : DE X L W (.Call (.Name x p) [e] [] pos) (call1 g me) :=
  let ⟨_, p1, s1⟩ := h.ex
  ⟨_, pe_callTy hc hg hm hv (pa_cons p1 pa_nil hst) hn hdb hst hpl, snd_call1 hs s1⟩
def lenD : D → Option D
  | .str x => if x.length ≤ 16777216 then some (.int x.length) else none
  | .lst xs => some (.int xs.length)
  | .tup xs => some (.int xs.length)
  | .lsx xs => some (.int xs.length)
  | _ => none
theorem calls_len : CallS1 L (fun xs H Q => ∃ x n, xs = [x] ∧ LenV L.K x H n ∧ Q (.int n) H) lenD := by
  intro F H v d z Q ex hf rv q
  unfold lenD at hf
  split at hf
  · split at hf
    · rename_i hl; cases hf; rw [rv.str]; exact ⟨_, _, rfl, ⟨by rw [line_eq]; exact hl, rfl⟩, q _ F H (.refl ex) (.int _)⟩
    · cases hf
  · cases hf
    obtain ⟨a, vs, rfl, h1, h2⟩ := rv.lst ex
    exact ⟨_, _, rfl, .inl ⟨vs, SqL.of h1, rfl⟩, by rw [h2.1]; exact q _ F H (.refl ex) (.int _)⟩
  · cases hf
    obtain ⟨a, vs, rfl, h1, h2⟩ := rv.tup ex
    exact ⟨_, _, rfl, .inr ⟨vs, h1, rfl⟩, by rw [h2.1]; exact q _ F H (.refl ex) (.int _)⟩
  · cases hf
    obtain ⟨a, vs, rfl, h1, h2⟩ := rv.lsx ex
    exact ⟨_, _, rfl, .inl ⟨vs, h1, rfl⟩, by rw [h2.1]; exact q _ F H (.refl ex) (.int _)⟩
  · cases hf
def absD : D → Option D
  | .int i => some (.int (if i < 0 then -i else i))
  | _ => none
theorem calls_abs : CallS1 L (fun xs H Q => ∃ i, xs = [.int i] ∧ Q (.int (if i < 0 then -i else i)) H) absD := by
  intro F H v d z Q ex hf rv q
  unfold absD at hf
  split at hf
  · cases hf; rw [rv.int]; exact ⟨_, rfl, q _ F H (.refl ex) (.int _)⟩
  · cases hf
def intD1 : D → Option D
  | .int i => some (.int i)
  | .bl k => some (.int (if k then 1 else 0))
  | _ => none
theorem calls_int : CallS1 L (fun xs H Q => (∃ i, xs = [.int i] ∧ Q (.int i) H) ∨ ∃ k, xs = [.bl k] ∧ Q (.int (if k then 1 else 0)) H) intD1 := by
  intro F H v d z Q ex hf rv q
  unfold intD1 at hf
  split at hf
  · cases hf; rw [rv.int]; exact .inl ⟨_, rfl, q _ F H (.refl ex) (.int _)⟩
  · cases hf; rw [rv.bl]; exact .inr ⟨_, rfl, q _ F H (.refl ex) (.int _)⟩
  · cases hf

/-! ### isinstance -/
def tyD : D → Option String
  | .non => some "NoneType"
  | .bl _ => some "bool"
  | .int _ => some "int"
  | .str _ => some "str"
  | .lst _ => some "list"
  | .tup _ => some "tuple"
  | _ => none
def isiB (T : String) (d : D) : Option Bool := (tyD d).bind fun t => kitB t T
def isiM (T : String) (m : DEnv → Res D) : DEnv → Res D := call1 (fun d => (isiB T d).map .bl) m
theorem tyx_of {v : V} {d : D} {t : String} (ex : Ex F H) (h : tyD d = some t) (r : RepR L F H v d) : TyX L.K H v (.type t) := by
  cases d with
  | non => cases h; rw [r.non]; exact .base .non
  | bl b => cases h; rw [r.bl]; exact .base (.bl b)
  | int i => cases h; rw [r.int]; exact .base (.int i)
  | str x => cases h; rw [r.str]; exact .base (.str x)
  | lst xs =>
    cases h
    obtain ⟨a, vs, rfl, h1, h2⟩ := r.lst ex
    exact .base (.lst h1)
  | tup xs =>
    cases h
    obtain ⟨a, vs, rfl, h1, h2⟩ := r.tup ex
    rcases h1 with (h1 | ⟨o, h1⟩) | ⟨o, its, n, h1, h3, _⟩
    · exact .base (.tup h1)
    · exact .fTuple h1
    · exact .kTuple h1 h3
  | _ => cases h
theorem d_isi {T : String} {t : Str} {pt : Pos} (hg : Gl X x) (hm : X.mg x = none) (hv : bootBuiltins x = some (.builtin "isinstance")) (hn : x ≠ "__name__") (hdb : (x == ("__debug__" : Str)) = false) (hgT : Gl X t) (hmT : X.mg t = none) (hvT : bootBuiltins t = some (.type T)) (hnT : t ≠ "__name__") (hdT : (t == ("__debug__" : Str)) = false) (h : DE X L W e me)
    (hst : starEach (e :: [.Name t pt]) X.env = (false, eval e X.env) :: starEach [.Name t pt] X.env := by rfl) (hst2 : starEach (Expr.Name t pt :: []) X.env = (false, eval (.Name t pt) X.env) :: starEach [] X.env := by rfl)
    (hpl : (backTo pos (starEach [.Name t pt] X.env)).any (·.1) = false := by rfl) (hk : L.K = X.K := by rfl) : DE X L W (.Call (.Name x p) [e, .Name t pt] [] pos) (isiM T me) := by
  obtain ⟨_, p1, s1⟩ := h.ex
  refine ⟨_, pe_callB call_isi hg hm hv (pa_cons p1 (pa_cons (pe_bltn (v := .ty T) hgT hmT hvT rfl hnT hdT) pa_nil hst2) hst) hn hdb hst hpl, fun σ Δ F H Q env w => ?_⟩
  refine s1 σ Δ F H _ env (w.bind.mono fun d Δ1 F1 H1 env1 w1 v rv => ?_)
  replace w1 : Want L W σ Δ1 F1 H1 (Res.opt ((isiB T d).map D.bl) Δ1) _ := w1
  cases q : isiB T d with
  | none => rw [q] at w1; exact w1.elim
  | some k =>
    rw [q] at w1
    obtain ⟨t1, h1, h2⟩ := Option.bind_eq_some_iff.mp q
    exact ⟨v, .ty T, .type t1, .type T, k, rfl, .ty T, hk ▸ tyx_of env1.ex h1 rv.r, kit_ty h2, w1 F1 H1 env1 .refl _ (.bl k)⟩
end
end KL
/-! KL, part e: statements, loops, own lists. -/
namespace KL
open PySem L2

inductive SRes where
  | stuck | nx (Δ : DEnv) | rt (d : D) (Δ : DEnv) | rf (ds : List D) (Δ : DEnv) | bk (Δ : DEnv) | ct (Δ : DEnv) | ex (x : Exc) (Δ : DEnv)
def WantS (L : Lx) (W : WX) (σ : L2.St) (Δ : DEnv) (F H : Hp) (r : SRes) (D : Ends) : Prop := match r with
  | .stuck => False
  | .nx Δ' => ∀ σ' F' H', EnvOk L F' σ' Δ' H' → Step σ Δ F H σ' Δ' F' H' → D.nx σ' H'
  | .bk Δ' => ∀ σ' F' H', EnvOk L F' σ' Δ' H' → Step σ Δ F H σ' Δ' F' H' → D.bk σ' H'
  | .ct Δ' => ∀ σ' F' H', EnvOk L F' σ' Δ' H' → Step σ Δ F H σ' Δ' F' H' → D.ct σ' H'
  | .rt d Δ' => ∀ σ' v F' H', EnvOk L F' σ' Δ' H' → Step σ Δ F H σ' Δ' F' H' → Rep L.K F' v d → D.rt v H'
  | .rf ds Δ' => ∀ σ' p vs F' H', EnvOk L F' σ' Δ' H' → Step σ Δ F H σ' Δ' F' H' → (H p = none ∨ Own σ Δ p) → F' p = none → H' p = some (.lst vs) → (∀ (j : Nat) ys, Δ'[j]? = some (Cell.pav ys) → slot σ' j ≠ some (.ref p)) → Reps L.K F' vs ds → D.rt (.ref p) H'
  | .ex x Δ' => ∀ σ' c dd F' H', EnvOk L F' σ' Δ' H' → Step σ Δ F H σ' Δ' F' H' → XOk L F' c dd x → W c dd σ' H'
def SndS (L : Lx) (W : WX) (ts : TS) (m : DEnv → SRes) : Prop := ∀ (σ : L2.St) (Δ : DEnv) (F H : Hp) (D : Ends), EnvOk L F σ Δ H → WantS L W σ Δ F H (m Δ) D → ts D σ H
structure DS (X : Cx) (L : Lx) (W : WX) (st : Stmt) (m : DEnv → SRes) : Prop where ex : ∃ ts, PS X st ts ∧ SndS L W ts m
structure DSs (X : Cx) (L : Lx) (W : WX) (st : List Stmt) (m : DEnv → SRes) : Prop where ex : ∃ ts, PSs X st ts ∧ SndS L W ts m

def Res.s {α : Type} (r : Res α) (f : α → DEnv → SRes) : SRes := match r with
  | .stuck => .stuck
  | .ok a Δ => f a Δ
  | .ex x Δ => .ex x Δ
def SRes.seq (r : SRes) (f : DEnv → SRes) : SRes := match r with
  | .nx Δ => f Δ
  | r => r
/-- a loop's turn, then k -/
def SRes.loop (r : SRes) (k : DEnv → SRes) : SRes := match r with
  | .nx Δ => k Δ
  | .ct Δ => k Δ
  | .bk Δ => .nx Δ
  | r => r

section
variable {α : Type} {X : Cx} {L : Lx} {W : WX} {σ σ' σ1 : L2.St} {Δ Δ' Δ1 : DEnv} {F F' F1 H H' H1 : Hp} {E : Ends}
theorem WantS.later {r : SRes} (h : WantS L W σ Δ F H r E) (s : Step σ Δ F H σ1 Δ1 F1 H1) : WantS L W σ1 Δ1 F1 H1 r E := by
  cases r with
  | stuck => exact h
  | nx Δ' => exact fun σ' F' H' e t => h σ' F' H' e (s.trans t)
  | bk Δ' => exact fun σ' F' H' e t => h σ' F' H' e (s.trans t)
  | ct Δ' => exact fun σ' F' H' e t => h σ' F' H' e (s.trans t)
  | rt d Δ' => exact fun σ' v F' H' e t r => h σ' v F' H' e (s.trans t) r
  | rf ds Δ' => exact fun σ' p vs F' H' e t hp => h σ' p vs F' H' e (s.trans t) (hp.elim (fun z => .inl (s.hn z)) fun z => (s.ow p z).elim .inr .inl)
  | ex x Δ' => exact fun σ' c dd F' H' e t x => h σ' c dd F' H' e (s.trans t) x
/-- an expression, then what follows -/
theorem Want.ofS {r : Res α} {f : α → DEnv → SRes} (h : WantS L W σ Δ F H (r.s f) E) : Want L W σ Δ F H r (fun a Δ1 F1 H1 => WantS L W σ Δ1 F1 H1 (f a Δ1) E) := by
  cases r with
  | stuck => exact h
  | ok a Δ1 => exact fun F1 H1 e s => WantS.later h s
  | ex x Δ1 => exact fun c dd F1 H1 e s xo => h σ c dd F1 H1 e s xo
theorem WantS.seq {r : SRes} {f : DEnv → SRes} {N : L2.St → Hp → Prop} (h : WantS L W σ Δ F H (r.seq f) E) (hN : ∀ σ1 Δ1 F1 H1, EnvOk L F1 σ1 Δ1 H1 → WantS L W σ1 Δ1 F1 H1 (f Δ1) E → N σ1 H1) : WantS L W σ Δ F H r { E with nx := N } := by
  cases r with
  | nx Δ1 => exact fun σ1 F1 H1 e s => hN σ1 Δ1 F1 H1 e (WantS.later h s)
  | _ => exact h
theorem WantS.loop {r : SRes} {k : DEnv → SRes} {N : L2.St → Hp → Prop} (h : WantS L W σ Δ F H (r.loop k) E) (hN : ∀ σ1 Δ1 F1 H1, EnvOk L F1 σ1 Δ1 H1 → Step σ Δ F H σ1 Δ1 F1 H1 → WantS L W σ1 Δ1 F1 H1 (k Δ1) E → N σ1 H1) :
    WantS L W σ Δ F H r { E with nx := N, ct := N, bk := E.nx } := by
  cases r with
  | nx Δ1 => exact fun σ1 F1 H1 e s => hN σ1 Δ1 F1 H1 e s (WantS.later h s)
  | ct Δ1 => exact fun σ1 F1 H1 e s => hN σ1 Δ1 F1 H1 e s (WantS.later h s)
  | _ => exact h

/-! ### stores -/
def canSet (Δ : DEnv) (i : Nat) : Bool := match Δ[i]? with
  | some (.pav _) => false
  | none => false
  | _ => true
theorem canSet_lt {i : Nat} (h : canSet Δ i = true) : i < Δ.length := by
  by_cases hi : i < Δ.length
  · exact hi
  · unfold canSet at h; rw [List.getElem?_eq_none (by omega)] at h; cases h
theorem canSet_pa {i : Nat} {xs : OwnV} (h : canSet Δ i = true) : Δ[i]? ≠ some (.pav xs) := fun e => by
  unfold canSet at h; rw [e] at h; cases h
theorem set_slot {i j : Nat} {v : V} (hi : i < σ.length) : slot (σ.set i (some v)) j = if j = i then some v else slot σ j := slot_set hi
theorem EnvOk.setC {i : Nat} {c : Cell} {v : V} (env : EnvOk L F σ Δ H) (hi : canSet Δ i = true) (hc : CellOk L F H (some v) c) (hown : ∀ xs a, c.own? = some xs → v = .ref a → ¬ Own σ Δ a) : EnvOk L F (σ.set i (some v)) (Δ.set i c) H := by
  have hl := canSet_lt hi
  have hs : i < σ.length := by rw [env.len]; exact hl
  refine ⟨env.ex, by rw [List.length_set, List.length_set]; exact env.len, fun j c' hj => ?_, fun j k c1 c2 xs ys a hjk hj hk h1 h2 e1 e2 => ?_⟩
  · rcases list_set_get hj with ⟨rfl, rfl⟩ | ⟨nj, hj⟩
    · rw [set_slot hs, if_pos rfl]; exact hc
    · rw [set_slot hs, if_neg nj]; exact env.cells j c' hj
  · rw [set_slot hs] at e1 e2
    rcases list_set_get hj with ⟨ej, ec⟩ | ⟨nj, gj⟩
    · rcases list_set_get hk with ⟨ek, ec'⟩ | ⟨nk, gk⟩
      · exact hjk (ej.trans ek.symm)
      · rw [if_pos ej] at e1
        rw [if_neg nk] at e2
        subst ec
        exact hown xs a h1 (Option.some.inj e1) ⟨k, c2, ys, gk, h2, e2⟩
    · rw [if_neg nj] at e1
      rcases list_set_get hk with ⟨ek, ec⟩ | ⟨nk, gk⟩
      · rw [if_pos ek] at e2
        subst ec
        exact hown ys a h2 (Option.some.inj e2) ⟨j, c1, xs, gj, h1, e1⟩
      · rw [if_neg nk] at e2
        exact env.apart j k c1 c2 xs ys a hjk gj gk h1 h2 e1 e2
/-- a store's step: what was own stays so, or was new -/
theorem Step.setC {i : Nat} {c : Cell} {v : V} (s : Step σ Δ F H σ1 Δ1 F1 H1) (hl : σ1.length = Δ1.length) (hi : canSet Δ1 i = true) (hown : ∀ xs, c.own? = some xs → ∃ a, v = .ref a ∧ (Own σ Δ a ∨ H a = none)) (hpa : ∀ xs, c ≠ .pav xs) :
    Step σ Δ F H (σ1.set i (some v)) (Δ1.set i c) F1 H1 := by
  have hs : i < σ1.length := by rw [hl]; exact canSet_lt hi
  refine ⟨s.fr, s.kp, s.fn, fun b ⟨j, c', ys, hj, h1, e⟩ => ?_, fun j ys hj => ?_, fun j ys hj => ?_, s.th⟩
  · rw [set_slot hs] at e
    rcases list_set_get hj with ⟨rfl, rfl⟩ | ⟨nj, hj⟩
    · rw [if_pos rfl] at e
      obtain ⟨a, e1, e2⟩ := hown ys h1
      rw [e1] at e; cases e; exact e2
    · rw [if_neg nj] at e
      exact s.ow b ⟨j, c', ys, hj, h1, e⟩
  · obtain ⟨xs', e1, e2⟩ := s.pa j ys hj
    have nj : j ≠ i := fun z => by subst z; exact absurd e1 (canSet_pa hi)
    exact ⟨xs', by rw [List.getElem?_set_ne (Ne.symm nj)]; exact e1, by rw [set_slot hs, if_neg nj]; exact e2⟩
  · rcases list_set_get hj with ⟨rfl, e⟩ | ⟨nj, hj⟩
    · exact absurd e.symm (hpa ys)
    · exact s.pb j ys hj
def setM (i : Nat) (d : D) (Δ : DEnv) : SRes := if canSet Δ i = true then .nx (Δ.set i (.va d)) else .stuck
def setO (i : Nat) (ds : List D) (Δ : DEnv) : SRes := if canSet Δ i = true then .nx (Δ.set i (.ow ds)) else .stuck

variable {e : Expr} {me : DEnv → Res D} {mf : DEnv → Res (List D)} {pos pos' : Pos} {x : Str} {i : Nat} {st : Stmt} {sts : List Stmt} {m n : DEnv → SRes}
theorem snd_set {te : TE} (h : Snd L W te me) : SndS L W (tAsg te (gName i)) (fun Δ => (me Δ).s fun d Δ1 => setM i d Δ1) := by
  intro σ Δ F H D env w
  refine h σ Δ F H _ env ((Want.ofS w).mono fun d Δ1 F1 H1 env1 w1 v r => ?_)
  unfold setM at w1
  split at w1
  · rename_i hi
    exact w1 _ F1 H1 (env1.setC hi ⟨v, rfl, r⟩ fun xs a h _ => by cases h) (Step.setC .refl env1.len hi (fun xs h => by cases h) fun xs h => by cases h)
  · exact w1.elim
theorem snd_setF {te : TE} (h : SndF L W te mf) : SndS L W (tAsg te (gName i)) (fun Δ => (mf Δ).s fun d Δ1 => setO i d Δ1) := by
  intro σ Δ F H D env w
  refine h σ Δ F H _ env ?_
  replace w : WantS L W σ Δ F H ((mf Δ).s fun d Δ1 => setO i d Δ1) D := w
  cases q : mf Δ with
  | stuck => rw [q] at w; exact w
  | ex x Δ' => rw [q] at w; exact fun c dd F1 H1 e s xo => w σ c dd F1 H1 e s xo
  | ok ds Δ1 =>
    rw [q] at w
    intro F1 H1 env1 st1 p vs hp ho hf hh rs
    replace w : WantS L W σ Δ F H (setO i ds Δ1) D := w
    unfold setO at w
    split at w
    · rename_i hi
      refine w _ F1 H1 (env1.setC hi ⟨p, _, rfl, hh, hf, .l rs⟩ fun xs a _ e o => ?_) (st1.setC env1.len hi (fun xs h => ⟨p, rfl, .inr hp⟩) fun xs h => by cases h)
      cases e; exact ho o
    · exact w.elim
theorem s_set (hN : X.N.Nodup) (hi : X.N[i]? = some x) (hx : Loc X.env.scope x) (h : DE X L W e me) (hs : swapsWith e (some (.Name x pos')) pos.line X.env = pure false := by rfl) (hf : X.fn x = true ∨ X.env.scope.names.lookup x = some .local := by first | exact .inl rfl | exact .inr rfl | assumption) :
    DS X L W (.Assign [.Name x pos'] e pos) (fun Δ => (me Δ).s fun d Δ1 => setM i d Δ1) := ⟨let ⟨_, p1, s1⟩ := h.ex; ⟨_, ps_set hN hi hx p1 hs hf, snd_set s1⟩⟩
theorem s_setF (hN : X.N.Nodup) (hi : X.N[i]? = some x) (hx : Loc X.env.scope x) (h : DF X L W e mf) (hs : swapsWith e (some (.Name x pos')) pos.line X.env = pure false := by rfl) (hf : X.fn x = true ∨ X.env.scope.names.lookup x = some .local := by first | exact .inl rfl | exact .inr rfl | assumption) :
    DS X L W (.Assign [.Name x pos'] e pos) (fun Δ => (mf Δ).s fun d Δ1 => setO i d Δ1) := ⟨let ⟨_, p1, s1⟩ := h.ex; ⟨_, ps_set hN hi hx p1 hs hf, snd_setF s1⟩⟩

/-! ### blocks and plain statements -/
theorem ss_nil : DSs X L W [] .nx := ⟨_, pss_nil, fun σ Δ F H D env w => w σ F H env .refl⟩
theorem ss_cons (h : DS X L W st m) (hs : DSs X L W sts n) : DSs X L W (st :: sts) (fun Δ => (m Δ).seq n) := by
  obtain ⟨_, p1, s1⟩ := h.ex
  obtain ⟨_, p2, s2⟩ := hs.ex
  exact ⟨_, pss_cons p1 p2, fun σ Δ F H D env w => s1 σ Δ F H _ env (w.seq fun σ1 Δ1 F1 H1 e1 w1 => s2 σ1 Δ1 F1 H1 D e1 w1)⟩
theorem ss_one (h : DS X L W st m) : DSs X L W [st] m := ⟨let ⟨_, p1, s1⟩ := h.ex; ⟨_, pss_one p1, s1⟩⟩
theorem s_pass : DS X L W (.Pass pos) .nx := ⟨_, ps_pass, fun σ Δ F H D env w => w σ F H env .refl⟩
theorem s_break : DS X L W (.Break pos) .bk := ⟨_, ps_break, fun σ Δ F H D env w => w σ F H env .refl⟩
theorem s_continue : DS X L W (.Continue pos) .ct := ⟨_, ps_continue, fun σ Δ F H D env w => w σ F H env .refl⟩
theorem s_expr (h : DE X L W e me) (hs : swapsWith e none pos.line X.env = pure false := by rfl) : DS X L W (.Expr e pos) (fun Δ => (me Δ).s fun _ Δ1 => .nx Δ1) := by
  obtain ⟨_, p1, s1⟩ := h.ex
  exact ⟨_, ps_expr p1 hs, fun σ Δ F H D env w => s1 σ Δ F H _ env ((Want.ofS w).mono fun d Δ1 F1 H1 env1 w1 v r => w1 σ F1 H1 env1 .refl)⟩
theorem s_ret (h : DE X L W e me) : DS X L W (.Return (some e) pos) (fun Δ => (me Δ).s .rt) := by
  obtain ⟨_, p1, s1⟩ := h.ex
  exact ⟨_, ps_ret p1, fun σ Δ F H D env w => s1 σ Δ F H _ env ((Want.ofS w).mono fun d Δ1 F1 H1 env1 w1 v r => w1 σ v F1 H1 env1 .refl r)⟩
theorem s_retN : DS X L W (.Return none pos) (.rt .non) := ⟨_, ps_retN, fun σ Δ F H D env w => w σ .non F H env .refl .non⟩
theorem own_pa {p : Addr} (env : EnvOk L F σ Δ H) (h : ¬ Own σ Δ p) (j : Nat) (ys : OwnV) (hj : Δ[j]? = some (Cell.pav ys)) : slot σ j ≠ some (.ref p) := fun e => h ⟨j, _, ys, hj, rfl, e⟩
theorem s_retF (h : DF X L W e mf) : DS X L W (.Return (some e) pos) (fun Δ => (mf Δ).s .rf) := by
  obtain ⟨_, p1, s1⟩ := h.ex
  refine ⟨_, ps_ret p1, fun σ Δ F H D env w => s1 σ Δ F H _ env ?_⟩
  replace w : WantS L W σ Δ F H ((mf Δ).s .rf) D := w
  cases q : mf Δ with
  | stuck => rw [q] at w; exact w
  | ex x Δ' => rw [q] at w; exact fun c dd F1 H1 e s xo => w σ c dd F1 H1 e s xo
  | ok ds Δ1 =>
    rw [q] at w
    exact fun F1 H1 env1 st1 p vs hp ho hf hh rs => w σ p vs F1 H1 env1 st1 (.inl hp) hf hh (own_pa env1 ho) rs
/-- return of an own list -/
def retO (i : Nat) : DEnv → SRes := fun Δ => match Δ[i]? with
  | some (.owv (.l xs)) => .rf xs Δ
  | _ => .stuck
theorem s_retO (hN : X.N[i]? = some x) (hv : Vis X.env.scope x) (hd : (x == ("__debug__" : Str)) = false) (hcd : (x == ("__classdict__" : Str)) = false) : DS X L W (.Return (some (.Name x pos')) pos) (retO i) := by
  refine ⟨_, ps_ret (pe_var hN hv hd hcd), fun σ Δ F H D env w => ?_⟩
  unfold retO at w
  split at w
  · rename_i xs q
    obtain ⟨a, u, e1, e2, e3, e0⟩ := env.cells i _ q
    obtain ⟨vs, rfl, e4⟩ := e0.lst
    refine ⟨.ref a, slot_some e1, w σ a vs F H env .refl (.inr ⟨i, _, _, q, rfl, e1⟩) e3 e2 (fun j ys hj e => ?_) e4⟩
    have nj : i ≠ j := fun z => by subst z; rw [q] at hj; cases hj
    exact env.apart i j _ _ _ ys a nj q hj rfl rfl e1 e
  · exact w.elim
theorem s_if {c : Expr} {a b : List Stmt} {mt : DEnv → Res Bool} (hc : DT X L W c mt) (ha : DSs X L W a m) (hb : DSs X L W b n) : DS X L W (.If c a b pos) (fun Δ => (mt Δ).s fun k Δ1 => if k = true then m Δ1 else n Δ1) := by
  obtain ⟨_, p0, s0⟩ := hc.ex
  obtain ⟨_, p1, s1⟩ := ha.ex
  obtain ⟨_, p2, s2⟩ := hb.ex
  refine ⟨_, ps_if p0 p1 p2, fun σ Δ F H D env w => s0 σ Δ F H _ env ((Want.ofS w).mono fun k Δ1 F1 H1 env1 w1 => ?_)⟩
  cases k with
  | true => exact s1 σ Δ1 F1 H1 D env1 w1
  | false => exact s2 σ Δ1 F1 H1 D env1 w1

/-! ### targets -/
def SndG (L : Lx) (g : TG) (tgt : D → DEnv → Option DEnv) : Prop := ∀ (σ : L2.St) (Δ Δ' : DEnv) (F H : Hp) (v : V) (d : D) (Q : L2.St → Hp → Prop), EnvOk L F σ Δ H → Rep L.K F v d → tgt d Δ = some Δ' →
  (∀ σ', EnvOk L F σ' Δ' H → Step σ Δ F H σ' Δ' F H → Q σ' H) → g v σ H Q
def SndGs (L : Lx) (g : TGs) (tgt : List D → DEnv → Option DEnv) : Prop := ∀ (σ : L2.St) (Δ Δ' : DEnv) (F H : Hp) (vs : List V) (ds : List D) (Q : L2.St → Hp → Prop), EnvOk L F σ Δ H → Reps L.K F vs ds → tgt ds Δ = some Δ' →
  (∀ σ', EnvOk L F σ' Δ' H → Step σ Δ F H σ' Δ' F H → Q σ' H) → g vs σ H Q
structure DG (X : Cx) (L : Lx) (tg : Expr) (tgt : D → DEnv → Option DEnv) : Prop where ex : ∃ g, PG X tg g ∧ SndG L g tgt
structure DGs (X : Cx) (L : Lx) (tgs : List Expr) (tgt : List D → DEnv → Option DEnv) : Prop where ex : ∃ g, PGs X tgs g ∧ SndGs L g tgt
def tgN (i : Nat) : D → DEnv → Option DEnv := fun d Δ => if canSet Δ i = true then some (Δ.set i (.va d)) else none
theorem g_name (hN : X.N.Nodup) (hi : X.N[i]? = some x) (hx : Loc X.env.scope x) (hf : X.fn x = true ∨ X.env.scope.names.lookup x = some .local := by first | exact .inl rfl | exact .inr rfl | assumption) : DG X L (.Name x pos) (tgN i) := by
  refine ⟨_, pg_name hN hi hx hf, fun σ Δ Δ' F H v d Q env r ht q => ?_⟩
  unfold tgN at ht
  split at ht
  · rename_i hi; cases ht
    exact q _ (env.setC hi ⟨v, rfl, r⟩ fun xs a h _ => by cases h) (Step.setC .refl env.len hi (fun xs h => by cases h) fun xs h => by cases h)
  · cases ht
def tgsNil : List D → DEnv → Option DEnv := fun ds Δ => match ds with
  | [] => some Δ
  | _ => none
def tgsCons (t : D → DEnv → Option DEnv) (u : List D → DEnv → Option DEnv) : List D → DEnv → Option DEnv := fun ds Δ => match ds with
  | d :: r => (t d Δ).bind (u r)
  | [] => none
theorem gs_nil : DGs X L [] tgsNil := by
  refine ⟨_, pgs_nil, fun σ Δ Δ' F H vs ds Q env r ht q => ?_⟩
  cases ds with
  | nil => cases ht; exact ⟨r.nil_inv, q σ env .refl⟩
  | cons d ds => cases ht
theorem gs_cons {tg : Expr} {tgs : List Expr} {t : D → DEnv → Option DEnv} {u : List D → DEnv → Option DEnv} (h : DG X L tg t) (hs : DGs X L tgs u) (hst : (assignEach (tg :: tgs) X.env).map (·.2) = assign tg X.env :: (assignEach tgs X.env).map (·.2) := by rfl) : DGs X L (tg :: tgs) (tgsCons t u) := by
  obtain ⟨g1, p1, s1⟩ := h.ex
  obtain ⟨g2, p2, s2⟩ := hs.ex
  refine ⟨_, pgs_cons p1 p2 hst, fun σ Δ Δ' F H vs ds Q env r ht q => ?_⟩
  cases ds with
  | nil => cases ht
  | cons d ds =>
    obtain ⟨Δ1, h1, h2⟩ := Option.bind_eq_some_iff.mp ht
    obtain ⟨v, ws, rfl, r1, r2⟩ := r.cons_inv
    exact ⟨v, ws, rfl, s1 σ Δ Δ1 F H v d _ env r1 h1 fun σ1 env1 st1 => s2 σ1 Δ1 Δ' F H ws ds Q env1 r2 h2 fun σ2 env2 st2 => q σ2 env2 (st1.trans st2)⟩
def tgT (n : Nat) (u : List D → DEnv → Option DEnv) : D → DEnv → Option DEnv := fun d Δ => match d with
  | .tup ds => if ds.length = n then u ds Δ else none
  | _ => none
theorem g_tup {tgs : List Expr} {k : Nat} {u : List D → DEnv → Option DEnv} {n : Nat} (h : DGs X L tgs u) (hc : X.calm = true := by rfl) (hn : (assignEach tgs X.env).length = n := by rfl) (hst : (assignEach tgs X.env).findIdx? (·.1) = none := by rfl) (hk : L.K = X.K := by rfl) :
    DG X L (.Tuple tgs k pos) (tgT n u) := by
  obtain ⟨g1, p1, s1⟩ := h.ex
  refine ⟨_, pg_tup hc p1 hn hst, fun σ Δ Δ' F H v d Q env r ht q => ?_⟩
  unfold tgT at ht
  split at ht
  · rename_i ds
    split at ht
    · rename_i hl
      obtain ⟨a, vs, rfl, h1, h2⟩ := rep_ref_tup r
      exact ⟨a, vs, rfl, hk ▸ env.ex.st h1, by rw [h2.1]; exact hl, s1 σ Δ Δ' F H vs ds Q env h2 ht q⟩
    · cases ht
  · cases ht
def asgM (me : DEnv → Res D) (tgt : D → DEnv → Option DEnv) : DEnv → SRes := fun Δ => (me Δ).s fun d Δ1 => match tgt d Δ1 with
  | some Δ2 => .nx Δ2
  | none => .stuck
theorem s_asg {tg : Expr} {tgt : D → DEnv → Option DEnv} (h : DE X L W e me) (hg : DG X L tg tgt) (hs : swapsWithSole [tg] e pos.line X.env = pure false := by rfl) (hw : swappedStores [tg] e X.env = pure none := by rfl)
    (h1 : (assignEach [tg] X.env).map (·.2) = [assign tg X.env] := by rfl) : DS X L W (.Assign [tg] e pos) (asgM me tgt) := by
  obtain ⟨_, p1, s1⟩ := h.ex
  obtain ⟨_, p2, s2⟩ := hg.ex
  refine ⟨_, ps_asg p1 p2 hs hw h1, fun σ Δ F H D env w => s1 σ Δ F H _ env ((Want.ofS w).mono fun d Δ1 F1 H1 env1 w1 v r => ?_)⟩
  cases q : tgt d Δ1 with
  | none => rw [q] at w1; exact w1.elim
  | some Δ2 => rw [q] at w1; exact s2 σ Δ1 Δ2 F1 H1 v d D.nx env1 r q fun σ2 env2 st2 => w1 σ2 F1 H1 env2 st2

/-! ### what is walked -/
/-- J gives out the items ds, one after the other -/
def ItOk (L : Lx) (F1 : Hp) (J : It) (ds : List D) : Prop := ∀ (i : Nat) (F' H' : Hp), Ex F1 F' → Ex F' H' →
  (∀ d, ds[i]? = some d → J.go i H' ∧ ∀ x H'', J.yld i H' x H'' → ∃ F'', Gro F' H' F'' H'' ∧ Rep L.K F'' x d) ∧ (ds.length ≤ i → J.stop i H')
def SndI (L : Lx) (W : WX) (wi : TI) (m : DEnv → Res (List D)) : Prop := ∀ (σ : L2.St) (Δ : DEnv) (F H : Hp) (R : It → Hp → Prop), EnvOk L F σ Δ H →
  Want L W σ Δ F H (m Δ) (fun ds _ F' H' => ∀ J, ItOk L F' J ds → R J H') → wi σ H R
structure DI (X : Cx) (L : Lx) (W : WX) (tg iter : Expr) (m : DEnv → Res (List D)) : Prop where ex : ∃ wi, PI X tg iter wi ∧ SndI L W wi m
theorem pi_or {tg iter : Expr} {wi wj : TI} (h : PI X tg iter wi) (h' : PI X tg iter wj) : PI X tg iter (fun σ H R => wi σ H R ∨ wj σ H R) := ⟨fun pins s σ H R I w => w.elim (h.run pins s σ H R I) (h'.run pins s σ H R I)⟩
/-- a frozen list or tuple -/
def seqM (m : DEnv → Res D) : DEnv → Res (List D) := fun Δ => (m Δ).bind fun d Δ1 => match d with
  | .lst ds => .ok ds Δ1
  | .tup ds => .ok ds Δ1
  | _ => .stuck
theorem i_seq {tg : Expr} (h : DE X L W e me) (hk : L.K = X.K := by rfl) : DI X L W tg e (seqM me) := by
  obtain ⟨te, p1, s1⟩ := h.ex
  refine ⟨_, pi_or (pi_list p1) (pi_tup p1), fun σ Δ F H R env w => ?_⟩
  replace w : Want L W σ Δ F H (seqM me Δ) _ := w
  unfold seqM at w
  -- which of the two is known ahead
  cases q : me Δ with
  | stuck => rw [q] at w; exact w.elim
  | ex x Δ' =>
    rw [q] at w
    exact .inl (s1 σ Δ F H _ env (by rw [q]; exact w))
  | ok d Δ1 =>
    rw [q] at w
    cases d with
    | lst ds =>
      refine .inl (s1 σ Δ F H _ env ?_)
      rw [q]
      intro F1 H1 env1 st1 v r
      obtain ⟨a, vs, rfl, h1, h2⟩ := rep_ref_lst r
      refine ⟨a, rfl, ⟨vs, SqL.of (env1.ex _ _ h1)⟩, w F1 H1 env1 st1 _ fun i F' H' e1 e2 => ⟨fun d hd => ?_, fun hl => ⟨vs, SqL.of ((e1.trans e2) _ _ h1), by rw [h2.1]; exact hl⟩⟩⟩
      obtain ⟨u, hu, ru⟩ := h2.get hd
      refine ⟨⟨vs, u, SqL.of ((e1.trans e2) _ _ h1), hu⟩, fun x H'' y => ?_⟩
      obtain ⟨rfl, y⟩ := y
      have := y vs (SqL.of ((e1.trans e2) _ _ h1))
      rw [hu] at this; cases this
      exact ⟨F', .refl e2, ru.mono e1⟩
    | tup ds =>
      refine .inr (s1 σ Δ F H _ env ?_)
      rw [q]
      intro F1 H1 env1 st1 v r
      obtain ⟨a, vs, rfl, h1, h2⟩ := rep_ref_tup r
      refine ⟨a, rfl, ⟨vs, hk ▸ env1.ex.st h1⟩, w F1 H1 env1 st1 _ fun i F' H' e1 e2 => ⟨fun d hd => ?_, fun hl => ⟨vs, hk ▸ (e1.trans e2).st h1, by rw [h2.1]; exact hl⟩⟩⟩
      obtain ⟨u, hu, ru⟩ := h2.get hd
      refine ⟨⟨vs, u, hk ▸ (e1.trans e2).st h1, hu⟩, fun x H'' y => ?_⟩
      obtain ⟨rfl, y⟩ := y
      have := y vs (hk ▸ (e1.trans e2).st h1)
      rw [hu] at this; cases this
      exact ⟨F', .refl e2, ru.mono e1⟩
    | _ => exact w.elim
/-- range -/
def rangeL (lo : Int) : Nat → List D := fun n => (List.range n).map fun i => .int (lo + (i : Nat))
theorem itok_range {lo : Int} {n : Nat} : ItOk L F (Itr lo n) (rangeL lo n) := by
  intro i F' H' e1 e2
  refine ⟨fun d hd => ?_, fun hl => ?_⟩
  · unfold rangeL at hd
    rw [List.getElem?_map] at hd
    cases q : (List.range n)[i]? with
    | none => rw [q] at hd; cases hd
    | some j =>
      rw [q] at hd
      cases hd
      have hi : i < n := by have := (List.getElem?_eq_some_iff.mp q).1; simpa using this
      have hj : j = i := by rw [List.getElem?_range hi] at q; cases q; rfl
      subst hj
      exact ⟨hi, fun x H'' ⟨e3, e4⟩ => by subst e3 e4; exact ⟨F', .refl e2, .int _⟩⟩
  · show n ≤ i
    unfold rangeL at hl
    simpa using hl
def range1M (m : DEnv → Res D) : DEnv → Res (List D) := fun Δ => (m Δ).bind fun d Δ1 => match d with
  | .int j => gd (decide (-4611686018427387904 ≤ j ∧ j < 4611686018427387904)) (.ok (rangeL 0 j.toNat) Δ1)
  | _ => .stuck
theorem i_range1 {tg a : Expr} {ma : DEnv → Res D} {p : Pos} (hg : Gl X "range") (hm : X.mg "range" = none) (h : DE X L W a ma) (hs : starEach [a] X.env = [(false, eval a X.env)] := by rfl) : DI X L W tg (.Call (.Name "range" p) [a] [] pos) (range1M ma) := by
  obtain ⟨te, p1, s1⟩ := h.ex
  refine ⟨_, pi_range1 hg hm (pa_cons p1 pa_nil (hs.trans rfl)) hs, fun σ Δ F H R env w => ?_⟩
  refine s1 σ Δ F H _ env (w.bind.mono fun d Δ1 F1 H1 env1 w1 v r => ?_)
  cases d with
  | int j =>
    cases r
    replace w1 : Want L W σ Δ1 F1 H1 (gd (decide (-4611686018427387904 ≤ j ∧ j < 4611686018427387904)) (.ok (rangeL 0 j.toNat) Δ1)) _ := w1
    unfold gd at w1
    split at w1
    · rename_i hb
      have hb := of_decide_eq_true hb
      exact ⟨j, rfl, by omega, by omega, w1 F1 H1 env1 .refl _ itok_range⟩
    · exact w1.elim
  | _ => exact w1.elim
def range2M (m n : DEnv → Res D) : DEnv → Res (List D) := fun Δ => (m Δ).bind fun d Δ1 => (n Δ1).bind fun d2 Δ2 => match d, d2 with
  | .int i, .int j => gd (decide (-4611686018427387904 ≤ i ∧ i < 4611686018427387904 ∧ -4611686018427387904 ≤ j ∧ j < 4611686018427387904)) (.ok (rangeL i (j - i).toNat) Δ2)
  | _, _ => .stuck
theorem i_range2 {tg a b : Expr} {ma mb : DEnv → Res D} {p : Pos} (hg : Gl X "range") (hm : X.mg "range" = none) (h : DE X L W a ma) (h' : DE X L W b mb) (hs : starEach [a, b] X.env = [(false, eval a X.env), (false, eval b X.env)] := by rfl) (hs2 : starEach [b] X.env = [(false, eval b X.env)] := by rfl) :
    DI X L W tg (.Call (.Name "range" p) [a, b] [] pos) (range2M ma mb) := by
  obtain ⟨te, p1, s1⟩ := h.ex
  obtain ⟨te2, p2, s2⟩ := h'.ex
  refine ⟨_, pi_range2 hg hm (pa_cons p1 (pa_cons p2 pa_nil (hs2.trans rfl)) (by rw [hs, hs2])) hs hs2, fun σ Δ F H R env w => ?_⟩
  refine s1 σ Δ F H _ env (w.bind.mono fun d Δ1 F1 H1 env1 w1 v r => ?_)
  refine s2 σ Δ1 F1 H1 _ env1 (w1.bind.mono fun d2 Δ2 F2 H2 env2 w2 v2 r2 => ?_)
  cases d with
  | int i =>
    cases d2 with
    | int j =>
      cases r; cases r2
      replace w2 : Want L W σ Δ2 F2 H2 (gd (decide (-4611686018427387904 ≤ i ∧ i < 4611686018427387904 ∧ -4611686018427387904 ≤ j ∧ j < 4611686018427387904)) (.ok (rangeL i (j - i).toNat) Δ2)) _ := w2
      unfold gd at w2
      split at w2
      · rename_i hb
        have hb := of_decide_eq_true hb
        exact ⟨i, j, rfl, by omega, w2 F2 H2 env2 .refl _ itok_range⟩
      · exact w2.elim
    | _ => exact w2.elim
  | _ => exact w2.elim

/-! ### for, while -/
def forM (tgt : D → DEnv → Option DEnv) (body : DEnv → SRes) : List D → DEnv → SRes
  | [], Δ => .nx Δ
  | d :: ds, Δ => match tgt d Δ with
    | none => .stuck
    | some Δ1 => (body Δ1).loop (forM tgt body ds)
theorem s_for {tg iter : Expr} {body : List Stmt} {mi : DEnv → Res (List D)} {tgt : D → DEnv → Option DEnv} (hp : PassesOwn (model X.prog X.w) X.A X.env X.xe) (hi : DI X L W tg iter mi) (hg : DG X L tg tgt) (hb : DSs X L W body m)
    (hc : X.calm = true := by rfl) (hs : ∀ x, foldedSetIterable iter X.env x = pure x := by intro _; rfl) : DS X L W (.For tg iter body [] pos) (fun Δ => (mi Δ).s (forM tgt m)) := by
  obtain ⟨wi, p1, s1⟩ := hi.ex
  obtain ⟨g, p2, s2⟩ := hg.ex
  obtain ⟨tb, p3, s3⟩ := hb.ex
  refine ⟨_, ps_for hp hc p1 p2 p3 hs, fun σ Δ F H D env w => ?_⟩
  refine s1 σ Δ F H _ env ((Want.ofS w).mono fun ds Δ1 F1 H1 env1 w1 J hJ => ?_)
  refine ⟨fun i k σ' H' => k = ds.length - i ∧ i ≤ ds.length ∧ ∃ Δ' F', Ex F1 F' ∧ EnvOk L F' σ' Δ' H' ∧ WantS L W σ' Δ' F' H' (forM tgt m (ds.drop i) Δ') D, ⟨_, rfl, Nat.zero_le _, Δ1, F1, Ex.refl _, env1, w1⟩, ?_⟩
  rintro i k σ' H' ⟨rfl, hi, Δ', F', ex, env', w'⟩
  obtain ⟨j1, j2⟩ := hJ i F' H' ex env'.ex
  by_cases hlt : i < ds.length
  · have hd : ds[i]? = some ds[i] := List.getElem?_eq_getElem hlt
    obtain ⟨go, yl⟩ := j1 _ hd
    refine .inr ⟨go, fun σ2 H2 => ∃ Δ2 F2, Ex F1 F2 ∧ EnvOk L F2 σ2 Δ2 H2 ∧ WantS L W σ2 Δ2 F2 H2 (forM tgt m (ds.drop (i + 1)) Δ2) D, fun σ2 H2 q => ⟨_, by omega, rfl, hlt, q⟩, fun x H'' y => ?_⟩
    obtain ⟨F'', gr, rx⟩ := yl x H'' y
    have env2 := env'.gro gr
    have w2 := w'.later (Step.gro gr)
    rw [List.drop_eq_getElem_cons hlt] at w2
    unfold forM at w2
    cases qt : tgt ds[i] Δ' with
    | none => rw [qt] at w2; exact w2.elim
    | some Δ3 =>
      rw [qt] at w2
      refine s2 σ' Δ' Δ3 F'' H'' x _ _ env2 rx qt fun σ3 env3 st3 => s3 σ3 Δ3 F'' H'' _ env3 ?_
      exact (w2.later st3).loop fun σ4 Δ4 F4 H4 env4 st4 w4 => ⟨Δ4, F4, (ex.trans gr.f).trans st4.fr, env4, w4⟩
  · have e : i = ds.length := by omega
    subst e
    rw [List.drop_length] at w'
    exact .inl ⟨j2 (Nat.le_refl _), w' σ' F' H' env' .refl⟩
def whileM (c : DEnv → Res Bool) (body : DEnv → SRes) : Nat → DEnv → SRes
  | 0, _ => .stuck
  | n + 1, Δ => (c Δ).s fun b Δ1 => if b = true then (body Δ1).loop (whileM c body n) else .nx Δ1
theorem s_while {c : Expr} {body : List Stmt} {mt : DEnv → Res Bool} {n : Nat} (hp : PassesOwn (model X.prog X.w) X.A X.env X.xe) (hc : DT X L W c mt) (hb : DSs X L W body m) : DS X L W (.While c body [] pos) (whileM mt m n) := by
  obtain ⟨tc, p1, s1⟩ := hc.ex
  obtain ⟨tb, p2, s2⟩ := hb.ex
  refine ⟨_, ps_while hp p1 p2, fun σ Δ F H D env w => ?_⟩
  refine ⟨fun k σ' H' => ∃ Δ' F', EnvOk L F' σ' Δ' H' ∧ WantS L W σ' Δ' F' H' (whileM mt m k Δ') D, ⟨n, Δ, F, env, w⟩, ?_⟩
  rintro k σ' H' ⟨Δ', F', env', w'⟩
  cases k with
  | zero => exact w'.elim
  | succ k =>
    refine s1 σ' Δ' F' H' _ env' ((Want.ofS w').mono fun b Δ1 F1 H1 env1 w1 => ?_)
    cases b with
    | true =>
      rw [if_pos rfl]
      refine ⟨fun σ2 H2 => ∃ Δ2 F2, EnvOk L F2 σ2 Δ2 H2 ∧ WantS L W σ2 Δ2 F2 H2 (whileM mt m k Δ2) D, fun σ2 H2 q => ⟨k, Nat.lt_succ_self k, q⟩, s2 σ' Δ1 F1 H1 _ env1 ?_⟩
      exact WantS.loop w1 fun σ2 Δ2 F2 H2 env2 _ w2 => ⟨Δ2, F2, env2, w2⟩
    | false => exact w1 σ' F1 H1 env1 .refl
end
end KL
/-! KL, part f: own lists changed, slices, comprehensions, calls of defs. -/
namespace KL
open PySem L2

def getL (Δ : DEnv) (i : Nat) : Option (List D) := (Δ[i]?).bind Cell.list?
def setW (Δ : DEnv) (i : Nat) (w : OwnV) : DEnv := match Δ[i]? with
  | some (.owv _) => Δ.set i (.owv w)
  | some (.pav _) => Δ.set i (.pav w)
  | _ => Δ
abbrev setL (Δ : DEnv) (i : Nat) (xs : List D) : DEnv := setW Δ i (.l xs)
section
variable {X : Cx} {L : Lx} {W : WX} {σ σ' σ1 : L2.St} {Δ Δ' Δ1 : DEnv} {F F' F1 H H' H1 : Hp} {E : Ends} {e : Expr} {es : List Expr} {me : DEnv → Res D} {mf : DEnv → Res (List D)} {pos pos' p : Pos} {x : Str} {i : Nat}
theorem EnvOk.getL {xs : List D} (env : EnvOk L F σ Δ H) (h : getL Δ i = some xs) : ∃ a vs, slot σ i = some (.ref a) ∧ H a = some (.lst vs) ∧ F a = none ∧ Reps L.K F vs xs := by
  obtain ⟨c, h1, h2⟩ := Option.bind_eq_some_iff.mp h
  obtain ⟨a, u, e1, e2, e3, e4⟩ := (env.cells i c h1).own (Cell.own_of_list h2)
  obtain ⟨vs, rfl, e5⟩ := e4.lst
  exact ⟨a, vs, e1, e2, e3, e5⟩
theorem EnvOk.mutW {w0 w : OwnV} {a : Addr} {u0 u : HO} {c : Cell} (env : EnvOk L F σ Δ H) (h1 : Δ[i]? = some c) (h2 : c.own? = some w0) (hs : slot σ i = some (.ref a)) (ha : H a = some u0) (hf : F a = none) (rs : OwnOk L.K F u w) :
    EnvOk L F σ (setW Δ i w) (upd H a u) ∧ Step σ Δ F H σ (setW Δ i w) F (upd H a u) := by
  obtain ⟨c', hc', hl', hset, hpa⟩ : ∃ c', setW Δ i w = Δ.set i c' ∧ c'.own? = some w ∧ CellOk L F (upd H a u) (slot σ i) c' ∧ (∀ zs, c' = .pav zs ↔ (zs = w ∧ ∃ us, c = .pav us)) := by
    unfold setW; rw [h1]
    cases c with
    | owv us => exact ⟨.owv w, rfl, rfl, ⟨a, u, hs, upd_same, hf, rs⟩, fun zs => ⟨fun q => (by cases q), fun q => (by obtain ⟨_, us, q⟩ := q; cases q)⟩⟩
    | pav us => exact ⟨.pav w, rfl, rfl, ⟨a, u, hs, upd_same, hf, rs⟩, fun zs => ⟨fun q => by cases q; exact ⟨rfl, us, rfl⟩, fun q => by rw [q.1]⟩⟩
    | _ => cases h2
  rw [hc']
  have own : Own σ Δ a := ⟨i, c, w0, h1, h2, hs⟩
  refine ⟨⟨fun b o q => ?_, by rw [List.length_set]; exact env.len, fun j cj hj => ?_, fun j k c1 c2 as bs b hjk hj hk q1 q2 e1 => ?_⟩, ?_⟩
  · rw [upd_ne (fun z => by rw [z, hf] at q; cases q)]; exact env.ex b o q
  · rcases list_set_get hj with ⟨rfl, rfl⟩ | ⟨nj, hj⟩
    · exact hset
    · have k := env.cells j cj hj
      have keep : ∀ us, cj.own? = some us → (∃ b u', slot σ j = some (.ref b) ∧ H b = some u' ∧ F b = none ∧ OwnOk L.K F u' us) → ∃ b u', slot σ j = some (.ref b) ∧ upd H a u b = some u' ∧ F b = none ∧ OwnOk L.K F u' us := by
        rintro us hu ⟨b, u', g1, g2, g3, g4⟩
        refine ⟨b, u', g1, ?_, g3, g4⟩
        rw [upd_ne (fun z => env.apart i j c cj w0 us a (Ne.symm nj) h1 hj h2 hu hs (by rw [← z]; exact g1))]; exact g2
      cases cj with
      | no => trivial
      | va d => exact k
      | owv us => exact keep us rfl k
      | pav us => exact keep us rfl k
      | xc x => exact k
  · have back : ∀ (j : Nat) (cj : Cell) (as : OwnV), (Δ.set i c')[j]? = some cj → cj.own? = some as → ∃ c0 as0, Δ[j]? = some c0 ∧ c0.own? = some as0 := fun j cj as hj q => by
      rcases list_set_get hj with ⟨rfl, _⟩ | ⟨_, hj⟩
      · exact ⟨c, w0, h1, h2⟩
      · exact ⟨cj, as, hj, q⟩
    obtain ⟨d1, a1, x1, y1⟩ := back j c1 as hj q1
    obtain ⟨d2, a2, x2, y2⟩ := back k c2 bs hk q2
    exact env.apart j k d1 d2 a1 a2 b hjk x1 x2 y1 y2 e1
  · refine ⟨Ex.refl F, fun b o q n => ?_, fun b o q => .inl q, fun b ⟨j, cj, as, hj, q, e⟩ => .inl ?_, fun j ys hj => ?_, fun j zs hj => ?_, fun b o q => ?_⟩
    · rw [upd_ne (fun z => n (by rw [z]; exact own))]; exact q
    · rcases list_set_get hj with ⟨rfl, _⟩ | ⟨_, hj⟩
      · exact ⟨_, c, w0, h1, h2, e⟩
      · exact ⟨j, cj, as, hj, q, e⟩
    · by_cases ej : j = i
      · subst ej
        rw [h1] at hj; cases hj
        have hl : j < Δ.length := (List.getElem?_eq_some_iff.mp h1).1
        exact ⟨w, by rw [List.getElem?_set_self hl, (hpa w).mpr ⟨rfl, ys, rfl⟩], rfl⟩
      · exact ⟨ys, by rw [List.getElem?_set_ne (Ne.symm ej)]; exact hj, rfl⟩
    · rcases list_set_get hj with ⟨ej, q⟩ | ⟨nj, hj⟩
      · obtain ⟨_, us, e2⟩ := (hpa zs).mp q.symm
        rw [ej]; exact ⟨us, by rw [h1, e2]⟩
      · exact ⟨zs, hj⟩
    · by_cases ej : b = a
      · exact ⟨_, by rw [ej]; exact upd_same⟩
      · exact ⟨o, by rw [upd_ne ej]; exact q⟩
theorem EnvOk.mut {xs ys : List D} {a : Addr} {vs ws : List V} (env : EnvOk L F σ Δ H) (h : KL.getL Δ i = some xs) (hs : slot σ i = some (.ref a)) (ha : H a = some (.lst vs)) (hf : F a = none) (rs : Reps L.K F ws ys) :
    EnvOk L F σ (setL Δ i ys) (upd H a (.lst ws)) ∧ Step σ Δ F H σ (setL Δ i ys) F (upd H a (.lst ws)) := by
  obtain ⟨c, h1, h2⟩ := Option.bind_eq_some_iff.mp h
  exact env.mutW h1 (Cell.own_of_list h2) hs ha hf (.l rs)
/-! ### methods of own lists -/
theorem tyV_own {xs : List D} (env : EnvOk L F σ Δ H) (h : getL Δ i = some xs) : ∃ a vs, slot σ i = some (.ref a) ∧ H a = some (.lst vs) ∧ F a = none ∧ Reps L.K F vs xs ∧ tyV L.K "list" (.ref a) H := by
  obtain ⟨a, vs, e1, e2, e3, e4⟩ := env.getL h
  exact ⟨a, vs, e1, e2, e3, e4, .inl ⟨rfl, vs, SqL.of e2⟩⟩
def appendM (i : Nat) (me : DEnv → Res D) : DEnv → Res D := fun Δ => match getL Δ i with
  | none => .stuck
  | some _ => (me Δ).bind fun d Δ1 => match getL Δ1 i with
    | none => .stuck
    | some xs => gd (decide (xs.length < 16777216)) (.ok .non (setL Δ1 i (xs ++ [d])))
theorem snd_append {te : TE} (h : Snd L W te me) : Snd L W (tBM L.K "list" rAppend (tVar i) (tCons te tNil)) (appendM i me) := by
  intro σ Δ F H Q env w
  unfold appendM at w
  cases q : getL Δ i with
  | none => rw [q] at w; exact w.elim
  | some ys =>
    rw [q] at w
    obtain ⟨a, us, e1, e2, e3, e4, ty⟩ := tyV_own env q
    refine ⟨.ref a, slot_some e1, ty, h σ Δ F H _ env (w.bind.mono fun d Δ1 F1 H1 env1 w1 v r => ?_)⟩
    cases q1 : getL Δ1 i with
    | none => rw [q1] at w1; exact w1.elim
    | some xs =>
      rw [q1] at w1
      obtain ⟨b, vs, g1, g2, g3, g4⟩ := env1.getL q1
      rw [e1] at g1; cases g1
      replace w1 : Want L W σ Δ1 F1 H1 (gd (decide (xs.length < 16777216)) (.ok D.non (setL Δ1 i (xs ++ [d])))) _ := w1
      unfold gd at w1
      split at w1
      · rename_i hl
        obtain ⟨env2, st2⟩ := env1.mut q1 e1 g2 g3 (g4.append (.cons r .nil))
        exact ⟨a, vs, v, rfl, rfl, g2, by rw [line_eq, g4.1]; exact of_decide_eq_true hl, w1 F1 _ env2 st2 _ Rep.non⟩
      · exact w1.elim
theorem d_append {n : Str} {apos : Pos} (hnm : n = "append") (hN : X.N[i]? = some x) (hv : Vis X.env.scope x) (hd : (x == ("__debug__" : Str)) = false) (hcd : (x == ("__classdict__" : Str)) = false) (h : DE X L W e me)
    (hbase : attributeBase (.Name x p) n X.env (eval (.Name x p) X.env) = eval (.Name x p) X.env := by rfl)
    (hfew : ((backTo pos (starEach (e :: []) X.env)).all (fun x => !x.1) && (backToKw pos (keywordEach [] X.env)).all (fun x => x.1.isSome) && decide ((e :: []).length + ([] : List Keyword).length + (if ([] : List Keyword).isEmpty then 0 else 1) < 30)) = true := by rfl)
    (hline : (apos.endLine == pos.line) = true := by rfl) (hs : starEach (e :: []) X.env = (false, eval e X.env) :: starEach [] X.env := by rfl) (hplain : (backTo pos (starEach [] X.env)).any (·.1) = false := by rfl) (hk : L.K = X.K := by rfl) :
    DE X L W (.Call (.Attribute (.Name x p) n apos) [e] [] pos) (appendM i me) := by
  subst hnm
  obtain ⟨_, p1, s1⟩ := h.ex
  refine ⟨_, pe_bm PySem.F.plainAttrs_list PySem.F.slot_list_append PySem.F.type_list_append mt_append (pe_var hN hv hd hcd) (pa_cons p1 pa_nil hs) hbase hfew hline hs hplain, ?_⟩
  rw [← hk]; exact snd_append s1
/-- pop() -/
def popM (i : Nat) : DEnv → Res D := fun Δ => match getL Δ i with
  | none => .stuck
  | some xs => match xs.getLast? with
    | none => .stuck
    | some d => .ok d (setL Δ i xs.dropLast)
theorem snd_pop : Snd L W (tBM0 L.K "list" rPop (tVar i)) (popM i) := by
  intro σ Δ F H Q env w
  unfold popM at w
  cases q : getL Δ i with
  | none => rw [q] at w; exact w.elim
  | some xs =>
    rw [q] at w
    obtain ⟨a, vs, e1, e2, e3, e4, ty⟩ := tyV_own env q
    replace w : Want L W σ Δ F H (match xs.getLast? with | none => .stuck | some d => .ok d (setL Δ i xs.dropLast)) _ := w
    cases q1 : xs.getLast? with
    | none => rw [q1] at w; exact w.elim
    | some d =>
      rw [q1] at w
      rw [List.getLast?_eq_getElem?] at q1
      obtain ⟨v, g1, g2⟩ := e4.get q1
      obtain ⟨env2, st2⟩ := env.mut q e1 e2 e3 e4.dropLast
      exact ⟨.ref a, slot_some e1, ty, a, vs, v, rfl, rfl, e2, by rw [e4.1]; exact g1, w F _ env2 st2 v g2⟩
theorem d_pop {n : Str} {apos : Pos} (hnm : n = "pop") (hN : X.N[i]? = some x) (hv : Vis X.env.scope x) (hd : (x == ("__debug__" : Str)) = false) (hcd : (x == ("__classdict__" : Str)) = false)
    (hbase : attributeBase (.Name x p) n X.env (eval (.Name x p) X.env) = eval (.Name x p) X.env := by rfl) (hline : (apos.endLine == pos.line) = true := by rfl) (hk : L.K = X.K := by rfl) :
    DE X L W (.Call (.Attribute (.Name x p) n apos) [] [] pos) (popM i) := by
  subst hnm
  refine ⟨_, pe_bm0 PySem.F.plainAttrs_list PySem.F.slot_list_pop PySem.F.type_list_pop mt_pop (pe_var hN hv hd hcd) hbase hline, ?_⟩
  rw [← hk]; exact snd_pop
/-- reverse() -/
def reverseM (i : Nat) : DEnv → Res D := fun Δ => match getL Δ i with
  | none => .stuck
  | some xs => .ok .non (setL Δ i xs.reverse)
theorem snd_reverse : Snd L W (tBM0 L.K "list" rReverse (tVar i)) (reverseM i) := by
  intro σ Δ F H Q env w
  unfold reverseM at w
  cases q : getL Δ i with
  | none => rw [q] at w; exact w.elim
  | some xs =>
    rw [q] at w
    obtain ⟨a, vs, e1, e2, e3, e4, ty⟩ := tyV_own env q
    obtain ⟨env2, st2⟩ := env.mut q e1 e2 e3 e4.reverse
    exact ⟨.ref a, slot_some e1, ty, a, vs, rfl, rfl, e2, w F _ env2 st2 _ .non⟩
theorem d_reverse {n : Str} {apos : Pos} (hnm : n = "reverse") (hN : X.N[i]? = some x) (hv : Vis X.env.scope x) (hd : (x == ("__debug__" : Str)) = false) (hcd : (x == ("__classdict__" : Str)) = false)
    (hbase : attributeBase (.Name x p) n X.env (eval (.Name x p) X.env) = eval (.Name x p) X.env := by rfl) (hline : (apos.endLine == pos.line) = true := by rfl) (hk : L.K = X.K := by rfl) :
    DE X L W (.Call (.Attribute (.Name x p) n apos) [] [] pos) (reverseM i) := by
  subst hnm
  refine ⟨_, pe_bm0 PySem.F.plainAttrs_list PySem.F.slot_list_reverse PySem.F.type_list_reverse mt_reverse (pe_var hN hv hd hcd) hbase hline, ?_⟩
  rw [← hk]; exact snd_reverse

/-! ### slices -/
def SndO (L : Lx) (W : WX) (to : TO) (m : DEnv → Res (Option Int)) : Prop := ∀ (σ : L2.St) (Δ : DEnv) (F H : Hp) (Q : Option Int → Hp → Prop), EnvOk L F σ Δ H → Want L W σ Δ F H (m Δ) (fun o _ F' H' => Q o H') → to σ H Q
structure DO (X : Cx) (L : Lx) (W : WX) (e : Option Expr) (m : DEnv → Res (Option Int)) : Prop where ex : ∃ to, PO X e to ∧ SndO L W to m
theorem o_none : DO X L W none (fun Δ => .ok none Δ) := ⟨_, po_none, fun σ Δ F H Q env w => w F H env .refl⟩
def someM (m : DEnv → Res D) : DEnv → Res (Option Int) := fun Δ => (m Δ).bind fun d Δ1 => match d with
  | .int i => .ok (some i) Δ1
  | _ => .stuck
theorem o_some (h : DE X L W e me) : DO X L W (some e) (someM me) := by
  obtain ⟨_, p1, s1⟩ := h.ex
  refine ⟨_, po_some p1, fun σ Δ F H Q env w => s1 σ Δ F H _ env (w.bind.mono fun d Δ1 F1 H1 env1 w1 v r => ?_)⟩
  cases d with
  | int i => cases r; exact ⟨i, rfl, w1 F1 H1 env1 .refl⟩
  | _ => exact w1.elim
def cutL {α : Type} (xs : List α) (lo hi : Option Int) : List α := (xs.drop (HT.sIx xs.length 0 lo)).take (HT.sIx xs.length xs.length hi - HT.sIx xs.length 0 lo)
/-- a slice of a text -/
def slSD (d : D) (lo hi : Option Int) : Option D := match d with
  | .str z => if z.length ≤ 16777216 then some (.str (cutS z lo hi)) else none
  | _ => none
def slM {α : Type} (f : D → Option Int → Option Int → Option α) (me : DEnv → Res D) (ml mh : DEnv → Res (Option Int)) : DEnv → Res α := fun Δ => (me Δ).bind fun d Δ1 => (ml Δ1).bind fun lo Δ2 => (mh Δ2).bind fun hi Δ3 => .opt (f d lo hi) Δ3
theorem d_slS {lo hi : Option Expr} {ml mh : DEnv → Res (Option Int)} {p2 : Pos} (h : DE X L W e me) (hl : DO X L W lo ml) (hh : DO X L W hi mh) : DE X L W (.Subscript e (.Slice lo hi none p2) pos) (slM slSD me ml mh) := by
  obtain ⟨_, p1, s1⟩ := h.ex
  obtain ⟨_, q2, s2⟩ := hl.ex
  obtain ⟨_, q3, s3⟩ := hh.ex
  refine ⟨_, pe_slice sl_str p1 q2 q3, fun σ Δ F H Q env w => ?_⟩
  refine s1 σ Δ F H _ env (w.bind.mono fun d Δ1 F1 H1 env1 w1 v r => ?_)
  refine s2 σ Δ1 F1 H1 _ env1 (w1.bind.mono fun lo Δ2 F2 H2 env2 w2 => ?_)
  refine s3 σ Δ2 F2 H2 _ env2 (w2.bind.mono fun hi Δ3 F3 H3 env3 w3 => ?_)
  cases d with
  | str z =>
    cases r
    replace w3 : Want L W σ Δ3 F3 H3 (.opt (if z.length ≤ 16777216 then some (D.str (cutS z lo hi)) else none) Δ3) _ := w3
    split at w3
    · rename_i hl; exact ⟨z, rfl, by rw [line_eq]; exact hl, w3 F3 H3 env3 .refl _ (Rep.str _)⟩
    · exact w3.elim
  | _ => exact w3.elim
theorem cutL_reps {vs : List V} {ds : List D} (h : Reps L.K F vs ds) (lo hi : Option Int) : Reps L.K F (cutV vs lo hi) (cutL ds lo hi) := by
  unfold cutV cutL
  rw [h.1]
  exact (h.drop _).take _
def slLD (d : D) (lo hi : Option Int) : Option (List D) := match d with
  | .lst ds => some (cutL ds lo hi)
  | _ => none
/-- a slice of a list that a name holds -/
def slV (i : Nat) (ml mh : DEnv → Res (Option Int)) : DEnv → Res (List D) := fun Δ => match rdR Δ i with
  | none => .stuck
  | some _ => (ml Δ).bind fun lo Δ2 => (mh Δ2).bind fun hi Δ3 => .opt ((rdR Δ3 i).bind fun d => slLD d lo hi) Δ3
/-- the step so far is kept in hand -/
theorem Want.keep {α : Type} {r : Res α} {Q : α → DEnv → Hp → Hp → Prop} (h : Want L W σ Δ F H r (fun a Δ' F' H' => Step σ Δ F H σ Δ' F' H' → Q a Δ' F' H')) : Want L W σ Δ F H r Q := by
  cases r with
  | stuck => exact h
  | ex x Δ' => exact h
  | ok a Δ1 => exact fun F1 H1 e s => h F1 H1 e s s
theorem Want.from {α : Type} {r : Res α} {Q : α → DEnv → Hp → Hp → Prop} (h : Want L W σ Δ F H r Q) (s : Step σ Δ F H σ Δ1 F1 H1) : Want L W σ Δ1 F1 H1 r Q := by
  cases r with
  | stuck => exact h
  | ex x Δ' => exact fun c dd F2 H2 e t xo => h c dd F2 H2 e (s.trans t) xo
  | ok a Δ2 => exact fun F2 H2 e t => h F2 H2 e (s.trans t)
theorem f_slV {lo hi : Option Expr} {ml mh : DEnv → Res (Option Int)} {p2 : Pos} (hN : X.N[i]? = some x) (hv : Vis X.env.scope x) (hd : (x == ("__debug__" : Str)) = false) (hcd : (x == ("__classdict__" : Str)) = false) (hl : DO X L W lo ml) (hh : DO X L W hi mh) :
    DF X L W (.Subscript (.Name x p) (.Slice lo hi none p2) pos) (slV i ml mh) := by
  obtain ⟨_, q2, s2⟩ := hl.ex
  obtain ⟨_, q3, s3⟩ := hh.ex
  refine ⟨_, pe_slice sl_list (pe_var hN hv hd hcd) q2 q3, fun σ Δ F H Q env w => ?_⟩
  unfold slV at w
  cases q0 : rdR Δ i with
  | none => rw [q0] at w; exact w.elim
  | some d0 =>
    rw [q0] at w
    obtain ⟨v, e1, _⟩ := env.rd q0
    replace w : Want L W σ Δ F H ((ml Δ).bind fun lo Δ2 => (mh Δ2).bind fun hi Δ3 => .opt ((rdR Δ3 i).bind fun d => slLD d lo hi) Δ3) _ := w
    refine ⟨v, slot_some e1, s2 σ Δ F H _ env (Want.keep (w.bind.mono fun lo Δ2 F2 H2 env2 w2 st2 => ?_))⟩
    refine s3 σ Δ2 F2 H2 _ env2 (Want.keep (w2.bind.mono fun hi Δ3 F3 H3 env3 w3 st3 => ?_))
    cases q1 : rdR Δ3 i with
    | none => rw [q1] at w3; exact w3.elim
    | some d =>
      rw [q1, Option.bind_some] at w3
      obtain ⟨v', e2, rv⟩ := env3.rd q1
      rw [e1] at e2; cases e2
      cases d with
      | lst ds =>
        obtain ⟨a, vs, rfl, h1, h2⟩ := rv.lst env3.ex
        have rr := cutL_reps h2 lo hi
        refine ⟨a, vs, rfl, SqL.of h1, fun p hp => ?_⟩
        obtain ⟨a1, a2, a3, a4⟩ := fresh_env (vs := cutV vs lo hi) env3 hp
        exact w3 F3 _ a1 a2 p _ ((st2.trans st3).hn hp) a3 a4 upd_same rr
      | _ => exact w3.elim
end
end KL
/-! KL, part g: comprehensions, defs and their calls. -/
namespace KL
open PySem L2

/-! ### comprehensions: the block's own slots vs are empty within, and as they were behind -/
def wipeD (Δ : DEnv) : List Nat → DEnv
  | [] => Δ
  | v :: vs => (wipeD Δ vs).set v .no
def restD (Δ Δ' : DEnv) : List Nat → DEnv
  | [] => Δ'
  | v :: vs => match Δ[v]? with
    | some c => (restD Δ Δ' vs).set v c
    | none => restD Δ Δ' vs
def plainC : Option Cell → Bool
  | some .no => true
  | some (.va _) => true
  | _ => false
section
variable {X : Cx} {L : Lx} {W : WX} {σ σ' σ1 σ2 : L2.St} {Δ Δ' Δ1 : DEnv} {F F' F1 H H' H1 : Hp} {E : Ends}
theorem wipeD_get {vs : List Nat} {j : Nat} : (wipeD Δ vs)[j]? = if j ∈ vs ∧ j < Δ.length then some .no else Δ[j]? := by
  have len : ∀ us, (wipeD Δ us).length = Δ.length := fun us => by
    induction us with
    | nil => rfl
    | cons u us ih => rw [wipeD, List.length_set]; exact ih
  induction vs with
  | nil => simp [wipeD]
  | cons v vs ih =>
    rw [wipeD]
    by_cases hj : v = j
    · subst hj
      by_cases hl : v < Δ.length
      · rw [List.getElem?_set_self (by rw [len]; exact hl), if_pos ⟨by simp, hl⟩]
      · rw [List.getElem?_eq_none (by rw [List.length_set, len]; omega), if_neg (fun z => hl z.2), List.getElem?_eq_none (by omega)]
    · rw [List.getElem?_set_ne hj, ih]
      by_cases hm : j ∈ vs ∧ j < Δ.length
      · rw [if_pos hm, if_pos ⟨by simp [hm.1], hm.2⟩]
      · rw [if_neg hm, if_neg (fun z => hm ⟨by simpa [Ne.symm hj] using z.1, z.2⟩)]
theorem wipeD_len (vs : List Nat) : (wipeD Δ vs).length = Δ.length := by
  induction vs with
  | nil => rfl
  | cons u us ih => rw [wipeD, List.length_set]; exact ih
theorem restD_len (vs : List Nat) : (restD Δ Δ' vs).length = Δ'.length := by
  induction vs with
  | nil => rfl
  | cons u us ih =>
    rw [restD]
    split
    · rw [List.length_set]; exact ih
    · exact ih
theorem restD_get {vs : List Nat} {j : Nat} (hl : Δ'.length = Δ.length) : (restD Δ Δ' vs)[j]? = if j ∈ vs then Δ[j]? else Δ'[j]? := by
  induction vs with
  | nil => simp [restD]
  | cons v vs ih =>
    rw [restD]
    by_cases hj : v = j
    · subst hj
      rw [if_pos (by simp)]
      cases q : Δ[v]? with
      | some c =>
        have hv := (List.getElem?_eq_some_iff.mp q).1
        show ((restD Δ Δ' vs).set v c)[v]? = _
        rw [List.getElem?_set_self (by rw [restD_len, hl]; exact hv)]
      | none =>
        show (restD Δ Δ' vs)[v]? = _
        have := List.getElem?_eq_none_iff.mp q
        rw [List.getElem?_eq_none (by rw [restD_len, hl]; exact this)]
    · have e : (match Δ[v]? with | some c => (restD Δ Δ' vs).set v c | none => restD Δ Δ' vs)[j]? = (restD Δ Δ' vs)[j]? := by
        split
        · rw [List.getElem?_set_ne hj]
        · rfl
      rw [e, ih]
      by_cases hm : j ∈ vs
      · rw [if_pos hm, if_pos (by simp [hm])]
      · rw [if_neg hm, if_neg (by simp [hm, Ne.symm hj])]
theorem wipe_slot {vs : List Nat} {j : Nat} : slot (wipe σ vs) j = if j ∈ vs then none else slot σ j := by
  induction vs with
  | nil => simp [wipe]
  | cons v vs ih =>
    rw [wipe]
    by_cases hj : v = j
    · subst hj
      rw [if_pos (by simp)]
      unfold slot
      by_cases hl : v < (wipe σ vs).length
      · rw [List.getElem?_set_self hl]; rfl
      · rw [List.getElem?_eq_none (by rw [List.length_set]; omega)]; rfl
    · have e : slot ((wipe σ vs).set v none) j = slot (wipe σ vs) j := by unfold slot; rw [List.getElem?_set_ne hj]
      rw [e, ih]
      by_cases hm : j ∈ vs
      · rw [if_pos hm, if_pos (by simp [hm])]
      · rw [if_neg hm, if_neg (by simp [hm, Ne.symm hj])]
theorem wipe_slot_eq {vs : List Nat} (h : wipe σ2 vs = wipe σ vs) {j : Nat} (hj : j ∉ vs) : slot σ2 j = slot σ j := by
  have a := wipe_slot (σ := σ2) (vs := vs) (j := j)
  have b := wipe_slot (σ := σ) (vs := vs) (j := j)
  rw [if_neg hj] at a b
  rw [← a, ← b, h]
theorem EnvOk.wipe {vs : List Nat} (env : EnvOk L F σ Δ H) : EnvOk L F (wipe σ vs) (wipeD Δ vs) H := by
  have get : ∀ (j : Nat) c, (wipeD Δ vs)[j]? = some c → c = .no ∨ (j ∉ vs ∧ Δ[j]? = some c) := fun j c h => by
    rw [wipeD_get] at h
    split at h
    · cases h; exact .inl rfl
    · rename_i hn
      refine .inr ⟨fun z => hn ⟨z, (List.getElem?_eq_some_iff.mp h).1⟩, h⟩
  refine ⟨env.ex, by rw [wipe_length, wipeD_len]; exact env.len, fun j c hc => ?_, fun j k c c' xs ys a hjk hj hk h1 h2 e1 e2 => ?_⟩
  · rcases get j c hc with rfl | ⟨n, h⟩
    · trivial
    · rw [wipe_slot, if_neg n]; exact env.cells j c h
  · rcases get j c hj with rfl | ⟨n1, g1⟩
    · cases h1
    · rcases get k c' hk with rfl | ⟨n2, g2⟩
      · cases h2
      · rw [wipe_slot, if_neg n1] at e1
        rw [wipe_slot, if_neg n2] at e2
        exact env.apart j k c c' xs ys a hjk g1 g2 h1 h2 e1 e2
theorem own_wipe {vs : List Nat} {b : Addr} (h : Own (wipe σ vs) (wipeD Δ vs) b) : Own σ Δ b := by
  obtain ⟨j, c, xs, h1, h2, h3⟩ := h
  rw [wipeD_get] at h1
  split at h1
  · cases h1; cases h2
  · rename_i hn
    have n : j ∉ vs := fun z => hn ⟨z, (List.getElem?_eq_some_iff.mp h1).1⟩
    rw [wipe_slot, if_neg n] at h3
    exact ⟨j, c, xs, h1, h2, h3⟩
theorem own_unwipe {vs : List Nat} {b : Addr} (hp : ∀ v ∈ vs, plainC Δ[v]? = true) (h : Own σ Δ b) : Own (wipe σ vs) (wipeD Δ vs) b := by
  obtain ⟨j, c, xs, h1, h2, h3⟩ := h
  have n : j ∉ vs := fun z => by
    have := hp j z
    rw [h1] at this
    cases c with
    | owv _ => exact Bool.noConfusion (show false = true from this)
    | pav _ => exact Bool.noConfusion (show false = true from this)
    | _ => cases h2
  refine ⟨j, c, xs, ?_, h2, by rw [wipe_slot, if_neg n]; exact h3⟩
  rw [wipeD_get, if_neg (fun z => n z.1)]; exact h1
/-- behind a turn of the block -/
theorem EnvOk.rest {vs : List Nat} {Δ2 : DEnv} {F2 H2 : Hp} (hp : ∀ v ∈ vs, plainC Δ[v]? = true) (env : EnvOk L F σ Δ H) (st : Step (L2.wipe σ vs) (wipeD Δ vs) F H σ2 Δ2 F2 H2) (env2 : EnvOk L F2 σ2 Δ2 H2) (hw : L2.wipe σ2 vs = L2.wipe σ vs) :
    EnvOk L F2 σ (restD Δ Δ2 vs) H2 ∧ Step σ Δ F H σ (restD Δ Δ2 vs) F2 H2 := by
  have hl : Δ2.length = Δ.length := by
    rw [← env2.len, ← env.len, ← wipe_length σ2 vs, hw, wipe_length]
  have cell : ∀ (j : Nat) c, (restD Δ Δ2 vs)[j]? = some c → (j ∈ vs ∧ Δ[j]? = some c ∧ c.own? = none) ∨ (j ∉ vs ∧ Δ2[j]? = some c) := fun j c h => by
    rw [restD_get hl] at h
    split at h
    · rename_i hj
      have := hp j hj
      rw [h] at this
      exact .inl ⟨hj, h, by cases c <;> first | rfl | cases this⟩
    · rename_i hj; exact .inr ⟨hj, h⟩
  refine ⟨⟨env2.ex, by rw [restD_len, hl]; exact env.len, fun j c hc => ?_, fun j k c c' xs ys a hjk hj hk h1 h2 e1 e2 => ?_⟩, ?_⟩
  · rcases cell j c hc with ⟨h1, h2, h3⟩ | ⟨h1, h2⟩
    · have q := env.cells j c h2
      have := hp j h1
      rw [h2] at this
      cases c with
      | no => trivial
      | va d => obtain ⟨v, g1, g2⟩ := q; exact ⟨v, g1, g2.mono st.fr⟩
      | _ => cases this
    · rw [← wipe_slot_eq hw h1]; exact env2.cells j c h2
  · rcases cell j c hj with ⟨g1, g2, g3⟩ | ⟨g1, g2⟩
    · rw [g3] at h1; cases h1
    · rcases cell k c' hk with ⟨g4, g5, g6⟩ | ⟨g4, g5⟩
      · rw [g6] at h2; cases h2
      · rw [← wipe_slot_eq hw g1] at e1
        rw [← wipe_slot_eq hw g4] at e2
        exact env2.apart j k c c' xs ys a hjk g2 g5 h1 h2 e1 e2
  · refine ⟨st.fr, fun b o h n => st.kp b o h fun z => n (own_wipe z), fun b o h => ?_, fun b ⟨j, c, xs, hj, h1, e1⟩ => ?_, fun j xs hj => ?_, fun j xs hj => ?_, st.th⟩
    · rcases st.fn b o h with z | z | z
      · exact .inl z
      · exact .inr (.inl z)
      · exact .inr (.inr (own_wipe z))
    · rcases cell j c hj with ⟨g1, g2, g3⟩ | ⟨g1, g2⟩
      · rw [g3] at h1; cases h1
      · rcases st.ow b ⟨j, c, xs, g2, h1, by rw [wipe_slot_eq hw g1]; exact e1⟩ with z | z
        · exact .inl (own_wipe z)
        · exact .inr z
    · have n : j ∉ vs := fun z => by have := hp j z; rw [hj] at this; cases this
      obtain ⟨xs', g1, g2⟩ := st.pa j xs (by rw [wipeD_get, if_neg (fun z => n z.1)]; exact hj)
      exact ⟨xs', by rw [restD_get hl, if_neg n]; exact g1, rfl⟩
    · rcases cell j _ hj with ⟨g1, g2, g3⟩ | ⟨g1, g2⟩
      · cases g3
      · obtain ⟨xs', g3⟩ := st.pb j xs g2
        rw [wipeD_get, if_neg (fun z => g1 z.1)] at g3
        exact ⟨xs', g3⟩
def compM (vs : List Nat) (tgt : D → DEnv → Option DEnv) (cond : DEnv → Res Bool) (elt : DEnv → Res D) : List D → List D → DEnv → Res (List D)
  | [], acc, Δ => .ok acc Δ
  | d :: ds, acc, Δ => match tgt d (wipeD Δ vs) with
    | none => .stuck
    | some Δ1 => (cond Δ1).nox.bind fun b Δ2 => if b = true then (elt Δ2).nox.bind fun y Δ3 => compM vs tgt cond elt ds (acc ++ [y]) (restD Δ Δ3 vs) else compM vs tgt cond elt ds acc (restD Δ Δ2 vs)
/-- guards: the block's slots hold no own list; the list stays below the line -/
def lcM (vs : List Nat) (mi : DEnv → Res (List D)) (tgt : D → DEnv → Option DEnv) (cond : DEnv → Res Bool) (elt : DEnv → Res D) : DEnv → Res (List D) := fun Δ => (mi Δ).bind fun ds Δ1 => gd (decide (ds.length < 16777216) && vs.all fun v => plainC Δ1[v]?) (compM vs tgt cond elt ds [] Δ1)
abbrev WF : WX := fun _ _ _ _ => False
/-- the parts of a block are told at the block's frame, what is wanted at the one around -/
theorem Want.cross {α β : Type} {W' : WX} {Δ3 : DEnv} {F3 H3 : Hp} {r : Res α} {f : α → DEnv → Res β} {Q : β → DEnv → Hp → Hp → Prop} (h : Want L W σ Δ F H (r.nox.bind f) Q) :
    Want L W' σ2 Δ3 F3 H3 r (fun a Δ4 F4 H4 => Step σ2 Δ3 F3 H3 σ2 Δ4 F4 H4 → Want L W σ Δ F H (f a Δ4) Q) := by
  cases r with
  | stuck => exact h
  | ex x Δ' => exact h.elim
  | ok a Δ1 => exact fun F1 H1 e s _ => h
theorem Step.hid {Dl : Addr} {o : HO} (s : Step σ Δ F H σ1 Δ1 F1 H1) (hD : H Dl = none) : Step σ Δ F H σ1 Δ1 F1 (upd H1 Dl o) :=
  ⟨s.fr, fun b u h n => by rw [upd_ne (ne_of_none h hD)]; exact s.kp b u h n, s.fn, s.ow, s.pa, s.pb, fun b u h => by rw [upd_ne (ne_of_none h hD)]; exact s.th b u h⟩
theorem EnvOk.hid {Dl : Addr} {o : HO} (env : EnvOk L F σ Δ H) (ho : ¬ Own σ Δ Dl) (hf : F Dl = none) : EnvOk L F σ Δ (upd H Dl o) := by
  refine ⟨fun b u h => by rw [upd_ne (ne_of_none h hf)]; exact env.ex b u h, env.len, fun i c hc => ?_, env.apart⟩
  have k := env.cells i c hc
  have keep : ∀ us, c.own? = some us → (∃ b u, slot σ i = some (.ref b) ∧ H b = some u ∧ F b = none ∧ OwnOk L.K F u us) → ∃ b u, slot σ i = some (.ref b) ∧ upd H Dl o b = some u ∧ F b = none ∧ OwnOk L.K F u us := by
    rintro us hu ⟨b, ws', g1, g2, g3, g4⟩
    refine ⟨b, ws', g1, ?_, g3, g4⟩
    rw [upd_ne (fun z => ho ⟨i, c, us, hc, hu, by rw [← z]; exact g1⟩)]; exact g2
  cases c with
  | no => trivial
  | va d => exact k
  | owv us => exact keep us rfl k
  | pav us => exact keep us rfl k
  | xc x => exact k
theorem restD_plain {vs : List Nat} {Δ2 : DEnv} (hl : Δ2.length = Δ.length) (hp : ∀ v ∈ vs, plainC Δ[v]? = true) : ∀ v ∈ vs, plainC (restD Δ Δ2 vs)[v]? = true := fun v hv => by
  rw [restD_get hl, if_pos hv]; exact hp v hv

variable {tg iter elt : Expr} {ifs : List Expr} {scope : Scope} {own : List (Str × Nat)} {pos : Pos} {mi : DEnv → Res (List D)} {tgt : D → DEnv → Option DEnv} {mc : DEnv → Res Bool} {me : DEnv → Res D}
structure DTs (X : Cx) (L : Lx) (W : WX) (es : List Expr) (m : DEnv → Res Bool) : Prop where ex : ∃ tt, PTs X es tt ∧ SndT L W tt m
theorem ts_nil : DTs X L W [] (fun Δ => .ok true Δ) := ⟨_, pts_nil, fun σ Δ F H Q env w => w F H env .refl⟩
theorem ts_one {c : Expr} (h : DT X L W c mc) : DTs X L W [c] mc := ⟨let ⟨_, p1, s1⟩ := h.ex; ⟨_, pts_one p1, s1⟩⟩
/-- a target within the block's own slots -/
def TgIn (vs : List Nat) (g : TG) : Prop := ∀ (σw : L2.St) (v : V) (σ' : L2.St) (H : Hp) (Q : L2.St → Hp → Prop), wipe σ' vs = σw → g v σ' H (fun σ2 H2 => wipe σ2 vs = σw → Q σ2 H2) → g v σ' H fun σ2 H2 => wipe σ2 vs = σw ∧ Q σ2 H2
def TgsIn (vs : List Nat) (g : TGs) : Prop := ∀ (σw : L2.St) (us : List V) (σ' : L2.St) (H : Hp) (Q : L2.St → Hp → Prop), wipe σ' vs = σw → g us σ' H (fun σ2 H2 => wipe σ2 vs = σw → Q σ2 H2) → g us σ' H fun σ2 H2 => wipe σ2 vs = σw ∧ Q σ2 H2
theorem wipe_get {vs : List Nat} {j : Nat} : (wipe σ vs)[j]? = if j ∈ vs ∧ j < σ.length then some none else σ[j]? := by
  induction vs with
  | nil => simp [wipe]
  | cons v vs ih =>
    rw [wipe]
    by_cases hj : v = j
    · subst hj
      by_cases hl : v < σ.length
      · rw [List.getElem?_set_self (by rw [wipe_length]; exact hl), if_pos ⟨by simp, hl⟩]
      · rw [List.getElem?_eq_none (by rw [List.length_set, wipe_length]; omega), if_neg (fun z => hl z.2), List.getElem?_eq_none (by omega)]
    · rw [List.getElem?_set_ne hj, ih]
      by_cases hm : j ∈ vs ∧ j < σ.length
      · rw [if_pos hm, if_pos ⟨by simp [hm.1], hm.2⟩]
      · rw [if_neg hm, if_neg (fun z => hm ⟨by simpa [Ne.symm hj] using z.1, z.2⟩)]
theorem wipe_set {vs : List Nat} {i : Nat} {x : Option V} (hi : i ∈ vs) : wipe (σ.set i x) vs = wipe σ vs := by
  apply List.ext_getElem?
  intro j
  rw [wipe_get, wipe_get, List.length_set]
  by_cases hm : j ∈ vs ∧ j < σ.length
  · rw [if_pos hm, if_pos hm]
  · rw [if_neg hm, if_neg hm]
    by_cases hj : i = j
    · subst hj
      have : ¬ i < σ.length := fun z => hm ⟨hi, z⟩
      rw [List.getElem?_eq_none (by rw [List.length_set]; omega), List.getElem?_eq_none (by omega)]
    · rw [List.getElem?_set_ne hj]
theorem wipe_wipe {vs : List Nat} : wipe (wipe σ vs) vs = wipe σ vs := by
  apply List.ext_getElem?
  intro j
  rw [wipe_get, wipe_length]
  by_cases hm : j ∈ vs ∧ j < σ.length
  · rw [if_pos hm, wipe_get, if_pos hm]
  · rw [if_neg hm]
theorem tgin_name {vs : List Nat} {i : Nat} (hi : i ∈ vs) : TgIn vs (gName i) := fun σw v σ' H Q h q => by
  have e : wipe (σ'.set i (some v)) vs = σw := by rw [wipe_set hi]; exact h
  exact ⟨e, q e⟩
theorem tgsin_nil {vs : List Nat} : TgsIn vs gNil := fun σw us σ' H Q h q => ⟨q.1, h, q.2 h⟩
theorem tgsin_cons {vs : List Nat} {g : TG} {gs : TGs} (h : TgIn vs g) (hs : TgsIn vs gs) (mono : ∀ (v : V) (σ' : L2.St) (H : Hp) (Q Q' : L2.St → Hp → Prop), (∀ σ2 H2, Q σ2 H2 → Q' σ2 H2) → g v σ' H Q → g v σ' H Q') : TgsIn vs (gCons g gs) := fun σw us σ' H Q e q => by
  obtain ⟨v, r, h1, h2⟩ := q
  exact ⟨v, r, h1, mono _ _ _ _ _ (fun σ2 H2 z => hs σw r σ2 H2 Q z.1 z.2) (h σw v σ' H _ e (mono _ _ _ _ _ (fun σ2 H2 z _ => z) h2))⟩
theorem tgin_tup {vs : List Nat} {K : PySem.W.Frag} {n : Nat} {gs : TGs} (hs : TgsIn vs gs) : TgIn vs (gTup K n gs) := fun σw v σ' H Q e q => by
  obtain ⟨a, xs, h1, h2, h3, h4⟩ := q
  exact ⟨a, xs, h1, h2, h3, hs σw xs σ' H Q e h4⟩
/-- what a turn's parts mean, whatever the block's frame is -/
theorem snd_lc {wi : TI} {g : TG} {tt : TT} {te : TE} {vs : List Nat} (hi : SndI L W wi mi) (hg : SndG L g tgt) (ht : SndT L WF tt mc) (he : Snd L WF te me) (hgw : TgIn vs g) :
    SndF L W (tLc wi g tt te vs) (lcM vs mi tgt mc me) := by
  intro σ Δ F H Q env w
  refine hi σ Δ F H _ env ?_
  replace w : Want L W σ Δ F H ((mi Δ).bind fun ds Δ1 => gd (decide (ds.length < 16777216) && vs.all fun v => plainC Δ1[v]?) (compM vs tgt mc me ds [] Δ1)) _ := w
  cases qi : mi Δ with
  | stuck => rw [qi] at w; exact w
  | ex x Δ' => rw [qi] at w; exact w
  | ok ds Δ1 =>
  rw [qi] at w
  intro F1 H1 env1 st1 J hJ Dl hD
  replace w : Want L W σ Δ F H (gd (decide (ds.length < 16777216) && vs.all fun v => plainC Δ1[v]?) (compM vs tgt mc me ds [] Δ1)) _ := w
  unfold gd at w
  split at w
  case isFalse => exact w.elim
  rename_i hgd
  obtain ⟨hz, hpl⟩ := Bool.and_eq_true_iff.mp hgd
  have hz := of_decide_eq_true hz
  have hpl : ∀ v ∈ vs, plainC Δ1[v]? = true := List.all_eq_true.mp hpl
  have hD0 := st1.hn hD
  obtain ⟨a1, a2, a3, a4⟩ := fresh_env (vs := []) env1 hD
  refine ⟨fun i k H' => k = ds.length - i ∧ i ≤ ds.length ∧ ∃ Δ' F' accv acc, Ex F1 F' ∧ EnvOk L F' σ Δ' H' ∧ Step σ Δ F H σ Δ' F' H' ∧ (∀ v ∈ vs, plainC Δ'[v]? = true) ∧ H' Dl = some (.lst accv) ∧ F' Dl = none ∧ ¬ Own σ Δ' Dl ∧ Reps L.K F' accv acc ∧ acc.length ≤ i ∧
      Want L W σ Δ F H (compM vs tgt mc me (ds.drop i) acc Δ') (fun ds Δ' F' H' => ∀ p vs, H p = none → ¬ Own σ Δ' p → F' p = none → H' p = some (.lst vs) → Reps L.K F' vs ds → Q (.ref p) H'),
    ⟨_, rfl, Nat.zero_le _, Δ1, F1, [], [], Ex.refl _, a1, st1.trans a2, hpl, upd_same, a4, a3, .nil, Nat.le_refl _, w⟩, ?_⟩
  rintro i k H' ⟨rfl, hi, Δ', F', accv, acc, ex, env', st', hpl', hDl, hFl, hOl, hrep, hlen, w'⟩
  obtain ⟨j1, j2⟩ := hJ i F' H' ex env'.ex
  by_cases hlt : i < ds.length
  case neg =>
    have e : i = ds.length := by omega
    subst e
    rw [List.drop_length] at w'
    exact .inl ⟨j2 (Nat.le_refl _), w' F' H' env' st' Dl accv hD0 hOl hFl hDl hrep⟩
  obtain ⟨go, yl⟩ := j1 _ (List.getElem?_eq_getElem hlt)
  refine .inr ⟨go, fun H2 => ∃ Δ' F' accv acc, Ex F1 F' ∧ EnvOk L F' σ Δ' H2 ∧ Step σ Δ F H σ Δ' F' H2 ∧ (∀ v ∈ vs, plainC Δ'[v]? = true) ∧ H2 Dl = some (.lst accv) ∧ F' Dl = none ∧ ¬ Own σ Δ' Dl ∧ Reps L.K F' accv acc ∧ acc.length ≤ i + 1 ∧
      Want L W σ Δ F H (compM vs tgt mc me (ds.drop (i + 1)) acc Δ') (fun ds Δ' F' H' => ∀ p vs, H p = none → ¬ Own σ Δ' p → F' p = none → H' p = some (.lst vs) → Reps L.K F' vs ds → Q (.ref p) H'), fun H2 q => ⟨_, by omega, rfl, hlt, q⟩, fun x H'' y => ?_⟩
  obtain ⟨F'', gr, rx⟩ := yl x H'' y
  have env2 := env'.gro gr
  have stg : Step σ Δ' F' H' σ Δ' F'' H'' := Step.gro gr
  have hDl2 : H'' Dl = some (.lst accv) := gr.h _ _ hDl
  have hFl2 : F'' Dl = none := by
    cases q : F'' Dl with
    | none => rfl
    | some o => rcases gr.n Dl o q with z | z
                · rw [hFl] at z; cases z
                · rw [hDl] at z; cases z
  rw [List.drop_eq_getElem_cons hlt] at w'
  unfold compM at w'
  cases qt : tgt ds[i] (wipeD Δ' vs) with
  | none => rw [qt] at w'; exact w'.elim
  | some Δ3 =>
    rw [qt] at w'
    refine hgw _ x _ H'' _ wipe_wipe (hg (wipe σ vs) (wipeD Δ' vs) Δ3 F'' H'' x _ _ env2.wipe rx qt fun σ3 env3 st3 hw => ?_)
    -- the end of a turn: the frame around, from the block's
    have fin : ∀ {Δ5 : DEnv} {F5 H5 : Hp}, EnvOk L F5 σ3 Δ5 H5 → Step σ3 Δ3 F'' H'' σ3 Δ5 F5 H5 → EnvOk L F5 σ (restD Δ' Δ5 vs) H5 ∧ Step σ Δ F H σ (restD Δ' Δ5 vs) F5 H5 ∧ (∀ v ∈ vs, plainC (restD Δ' Δ5 vs)[v]? = true) ∧
        H5 Dl = some (.lst accv) ∧ F5 Dl = none ∧ ¬ Own σ (restD Δ' Δ5 vs) Dl ∧ Ex F' F5 := fun {Δ5 F5 H5} env5 st5 => by
      have stA := st3.trans st5
      obtain ⟨r1, r2⟩ := EnvOk.rest hpl' env2 stA env5 hw
      have hOw : ¬ Own (wipe σ vs) (wipeD Δ' vs) Dl := fun z => hOl (own_wipe z)
      have r3 : H5 Dl = some (.lst accv) := stA.kp Dl _ hDl2 hOw
      refine ⟨r1, (st'.trans stg).trans r2, restD_plain (by rw [← env5.len, ← env'.len, ← wipe_length σ3 vs, hw, wipe_length]) hpl', r3, ?_, fun z => ?_, gr.f.trans stA.fr⟩
      · cases q : F5 Dl with
        | none => rfl
        | some o =>
          rcases stA.fn Dl o q with z | z | z
          · rw [hFl2] at z; cases z
          · rw [hDl2] at z; cases z
          · exact absurd z hOw
      · rcases r2.ow Dl z with y | y
        · exact hOl y
        · rw [hDl2] at y; cases y
    refine ht σ3 Δ3 F'' H'' _ env3 (Want.keep ((Want.cross w').mono fun b Δ4 F4 H4 env4 wb st4 => ?_))
    have w4 := wb st4
    cases b with
    | false =>
      obtain ⟨r1, r2, r3, r4, r5, r6, r7⟩ := fin env4 st4
      exact ⟨_, F4, accv, acc, ex.trans r7, r1, r2, r3, r4, r5, r6, hrep.mono r7, by omega, w4⟩
    | true =>
      refine he σ3 Δ4 F4 H4 _ env4 (Want.keep ((Want.cross w4).mono fun y Δ5 F5 H5 env5 wy st5 v rv => ?_))
      have w5 := wy st5
      obtain ⟨r1, r2, r3, r4, r5, r6, r7⟩ := fin env5 (st4.trans st5)
      refine ⟨accv, r4, by rw [line_eq, hrep.1]; omega, ?_⟩
      exact ⟨_, F5, accv ++ [v], acc ++ [y], ex.trans r7, r1.hid r6 r5, r2.hid hD0, r3, upd_same, r5, r6, (hrep.mono r7).append (.cons rv .nil), by rw [List.length_append, List.length_singleton]; omega, w5⟩

/-! ### one reading for all places -/
def teM (L : Lx) (W : WX) (m : DEnv → Res D) : TE := fun σ H Q => ∃ Δ F, EnvOk L F σ Δ H ∧ Want L W σ Δ F H (m Δ) (fun d _ F' H' => ∀ v, Rep L.K F' v d → Q v H')
def ttM (L : Lx) (W : WX) (m : DEnv → Res Bool) : TT := fun σ H Q => ∃ Δ F, EnvOk L F σ Δ H ∧ Want L W σ Δ F H (m Δ) (fun b _ F' H' => Q b H')
theorem DE.one {e : Expr} {m : DEnv → Res D} (h : DE X L W e m) : PE X e (teM L W m) := by
  obtain ⟨te, p, s⟩ := h.ex
  exact ⟨fun pins s0 σ H Q I q => by obtain ⟨Δ, F, env, w⟩ := q; exact p.run pins s0 σ H Q I (s σ Δ F H Q env w)⟩
theorem DTs.one {es : List Expr} {m : DEnv → Res Bool} (h : DTs X L W es m) : PTs X es (ttM L W m) := by
  obtain ⟨te, p, s⟩ := h.ex
  exact ⟨fun pins s0 σ H Q I q => by obtain ⟨Δ, F, env, w⟩ := q; exact p.run pins s0 σ H Q I (s σ Δ F H Q env w)⟩
theorem snd_teM {m : DEnv → Res D} : Snd L W (teM L W m) m := fun σ Δ F H Q env w => ⟨Δ, F, env, w⟩
theorem snd_ttM {m : DEnv → Res Bool} : SndT L W (ttM L W m) m := fun σ Δ F H Q env w => ⟨Δ, F, env, w⟩
/-- a block's target -/
structure BG (X : Cx) (scope : Scope) (L : Lx) (vs : List Nat) (tg : Expr) (tgt : D → DEnv → Option DEnv) : Prop where
  ex : ∃ g, (∀ (s : Shared) (H : Hp) (C : Addr) (cl : List (Str × Addr)) (fp : List Addr), PG (X.blk s H scope (compEnvC scope cl C X.env) fp) tg g) ∧ SndG L g tgt ∧ TgIn vs g ∧ ∀ (v : V) (σ' : L2.St) (H : Hp) (Q Q' : L2.St → Hp → Prop), (∀ σ2 H2, Q σ2 H2 → Q' σ2 H2) → g v σ' H Q → g v σ' H Q'
structure BGs (X : Cx) (scope : Scope) (L : Lx) (vs : List Nat) (tgs : List Expr) (tgt : List D → DEnv → Option DEnv) : Prop where
  ex : ∃ g, (∀ (s : Shared) (H : Hp) (C : Addr) (cl : List (Str × Addr)) (fp : List Addr), PGs (X.blk s H scope (compEnvC scope cl C X.env) fp) tgs g) ∧ SndGs L g tgt ∧ TgsIn vs g ∧ ∀ (us : List V) (σ' : L2.St) (H : Hp) (Q Q' : L2.St → Hp → Prop), (∀ σ2 H2, Q σ2 H2 → Q' σ2 H2) → g us σ' H Q → g us σ' H Q'
theorem sndg_name {i : Nat} : SndG L (gName i) (tgN i) := fun σ Δ Δ' F H v d Q env r ht q => by
  unfold tgN at ht
  split at ht
  · rename_i hi; cases ht
    exact q _ (env.setC hi ⟨v, rfl, r⟩ fun xs a h _ => by cases h) (Step.setC .refl env.len hi (fun xs h => by cases h) fun xs h => by cases h)
  · cases ht
theorem b_name {i : Nat} {x : Str} {vs : List Nat} {pos : Pos} (hN : X.N.Nodup) (hi : X.N[i]? = some x) (hx : ∀ (s : Shared) (H : Hp) (C : Addr) (cl : List (Str × Addr)) (fp : List Addr), Loc (X.blk s H scope (compEnvC scope cl C X.env) fp).env.scope x)
    (hf : ∀ (s : Shared) (H : Hp) (C : Addr) (cl : List (Str × Addr)) (fp : List Addr), (X.blk s H scope (compEnvC scope cl C X.env) fp).fn x = true ∨ (X.blk s H scope (compEnvC scope cl C X.env) fp).env.scope.names.lookup x = some .local) (hv : i ∈ vs) : BG X scope L vs (.Name x pos) (tgN i) :=
  ⟨gName i, fun s H C cl fp => pg_name hN hi (hx s H C cl fp) (hf s H C cl fp), sndg_name, tgin_name hv, fun v σ' H Q Q' h q => h _ _ q⟩
theorem bs_nil {vs : List Nat} : BGs X scope L vs [] tgsNil := by
  refine ⟨gNil, fun s H C cl fp => pgs_nil, fun σ Δ Δ' F H us ds Q env r ht q => ?_, tgsin_nil, fun us σ' H Q Q' h q => ⟨q.1, h _ _ q.2⟩⟩
  cases ds with
  | nil => cases ht; exact ⟨r.nil_inv, q σ env .refl⟩
  | cons d ds => cases ht
theorem bs_cons {vs : List Nat} {tgs : List Expr} {t : D → DEnv → Option DEnv} {u : List D → DEnv → Option DEnv} (h : BG X scope L vs tg t) (hs : BGs X scope L vs tgs u)
    (hst : ∀ (s : Shared) (H : Hp) (C : Addr) (cl : List (Str × Addr)) (fp : List Addr), (assignEach (tg :: tgs) (X.blk s H scope (compEnvC scope cl C X.env) fp).env).map (·.2) = assign tg (X.blk s H scope (compEnvC scope cl C X.env) fp).env :: (assignEach tgs (X.blk s H scope (compEnvC scope cl C X.env) fp).env).map (·.2) := by intros; rfl) :
    BGs X scope L vs (tg :: tgs) (tgsCons t u) := by
  obtain ⟨g1, p1, s1, i1, m1⟩ := h.ex
  obtain ⟨g2, p2, s2, i2, m2⟩ := hs.ex
  refine ⟨gCons g1 g2, fun s H C cl fp => pgs_cons (p1 s H C cl fp) (p2 s H C cl fp) (hst s H C cl fp), fun σ Δ Δ' F H us ds Q env r ht q => ?_, tgsin_cons i1 i2 m1, fun us σ' H Q Q' hq q => ?_⟩
  · cases ds with
    | nil => cases ht
    | cons d ds =>
      obtain ⟨Δ1, h1, h2⟩ := Option.bind_eq_some_iff.mp ht
      obtain ⟨v, ws, rfl, r1, r2⟩ := r.cons_inv
      exact ⟨v, ws, rfl, s1 σ Δ Δ1 F H v d _ env r1 h1 fun σ1 env1 st1 => s2 σ1 Δ1 Δ' F H ws ds Q env1 r2 h2 fun σ2 env2 st2 => q σ2 env2 (st1.trans st2)⟩
  · obtain ⟨v, r, h1, h2⟩ := q
    exact ⟨v, r, h1, m1 _ _ _ _ _ (fun σ2 H2 z => m2 _ _ _ _ _ hq z) h2⟩
theorem b_tup {vs : List Nat} {tgs : List Expr} {k : Nat} {u : List D → DEnv → Option DEnv} {n : Nat} {pos : Pos} (h : BGs X scope L vs tgs u) (hc : X.calm = true := by rfl)
    (hn : ∀ (s : Shared) (H : Hp) (C : Addr) (cl : List (Str × Addr)) (fp : List Addr), (assignEach tgs (X.blk s H scope (compEnvC scope cl C X.env) fp).env).length = n := by intros; rfl)
    (hst : ∀ (s : Shared) (H : Hp) (C : Addr) (cl : List (Str × Addr)) (fp : List Addr), (assignEach tgs (X.blk s H scope (compEnvC scope cl C X.env) fp).env).findIdx? (·.1) = none := by intros; rfl) (hk : L.K = X.K := by rfl) :
    BG X scope L vs (.Tuple tgs k pos) (tgT n u) := by
  obtain ⟨g1, p1, s1, i1, m1⟩ := h.ex
  refine ⟨gTup X.K n g1, fun s H C cl fp => pg_tup (X := X.blk s H scope (compEnvC scope cl C X.env) fp) hc (p1 s H C cl fp) (hn s H C cl fp) (hst s H C cl fp), fun σ Δ Δ' F H v d Q env r ht q => ?_, tgin_tup i1, fun v σ' H Q Q' hq q => ?_⟩
  · unfold tgT at ht
    split at ht
    · rename_i ds
      split at ht
      · rename_i hl
        obtain ⟨a, vs, rfl, h1, h2⟩ := rep_ref_tup r
        exact ⟨a, vs, rfl, hk ▸ env.ex.st h1, by rw [h2.1]; exact hl, s1 σ Δ Δ' F H vs ds Q env h2 ht q⟩
      · cases ht
    · cases ht
  · obtain ⟨a, xs, h1, h2, h3, h4⟩ := q
    exact ⟨a, xs, h1, h2, h3, m1 _ _ _ _ _ hq h4⟩
theorem f_lc (hN : X.N.Nodup) (hi : DI X L W tg iter mi) (ok : BlkOk X.N X.env.scope scope own) (hg : BG X scope L (own.map (·.2)) tg tgt)
    (ht : ∀ (s : Shared) (H : Hp) (C : Addr) (cl : List (Str × Addr)) (fp : List Addr), DTs (X.blk s H scope (compEnvC scope cl C X.env) fp) L WF ifs mc)
    (he : ∀ (s : Shared) (H : Hp) (C : Addr) (cl : List (Str × Addr)) (fp : List Addr), DE (X.blk s H scope (compEnvC scope cl C X.env) fp) L WF elt me) (hc : X.calm = true := by rfl) (hs : ∀ x, foldedSetIterable iter X.env x = pure x := by intro _; rfl) :
    DF X L W (.ListComp elt [⟨tg, iter, ifs, 0⟩] scope pos) (lcM (own.map (·.2)) mi tgt mc me) := by
  obtain ⟨wi, p1, s1⟩ := hi.ex
  obtain ⟨g, p2, s2, i2, _⟩ := hg.ex
  exact ⟨_, pe_lc hc hN p1 ok p2 (fun s H C cl fp => (ht s H C cl fp).one) (fun s H C cl fp => (he s H C cl fp).one) hs, snd_lc s1 s2 snd_ttM snd_teM i2⟩
/-- name = [..], an own list -/
theorem s_setLc {i : Nat} {y : Str} {py spos : Pos} (hN : X.N.Nodup) (hy : X.N[i]? = some y) (hyl : X.env.scope.names.lookup y = some .local) (hsw : swapsWith (.ListComp elt [⟨tg, iter, ifs, 0⟩] scope pos) (some (.Name y py)) spos.line X.env = pure true) (hi : DI X L W tg iter mi) (ok : BlkOk X.N X.env.scope scope own) (hg : BG X scope L (own.map (·.2)) tg tgt)
    (ht : ∀ (s : Shared) (H : Hp) (C : Addr) (cl : List (Str × Addr)) (fp : List Addr), DTs (X.blk s H scope (compEnvC scope cl C X.env) fp) L WF ifs mc)
    (he : ∀ (s : Shared) (H : Hp) (C : Addr) (cl : List (Str × Addr)) (fp : List Addr), DE (X.blk s H scope (compEnvC scope cl C X.env) fp) L WF elt me) (hc : X.calm = true := by rfl) (hs : ∀ x, foldedSetIterable iter X.env x = pure x := by intro _; rfl) :
    DS X L W (.Assign [.Name y py] (.ListComp elt [⟨tg, iter, ifs, 0⟩] scope pos) spos) (fun Δ => (lcM (own.map (·.2)) mi tgt mc me Δ).s fun d Δ1 => setO i d Δ1) := by
  obtain ⟨wi, p1, s1⟩ := hi.ex
  obtain ⟨g, p2, s2, i2, _⟩ := hg.ex
  exact ⟨_, ps_setLc hc hN hy hyl hsw p1 ok p2 (fun s H C cl fp => (ht s H C cl fp).one) (fun s H C cl fp => (he s H C cl fp).one) hs, snd_setF (snd_lc s1 s2 snd_ttM snd_teM i2)⟩
end
end KL
/-! KL, part h: what a def promises, its body, its calls. -/
namespace KL
open PySem L2

inductive FRes where
  | stuck | ok (d : D) (cs : DEnv) | fr (ds : List D) (cs : DEnv) | ex (x : Exc) (cs : DEnv)
def WantF (L : Lx) (vs : List V) (cs : DEnv) (F H : Hp) (r : FRes) (Q : VK) (E : XK) : Prop := match r with
  | .stuck => False
  | .ok d cs' => ∀ v F' H', EnvOk L F' (vs.map some) cs' H' → Step (vs.map some) cs F H (vs.map some) cs' F' H' → Rep L.K F' v d → Q v H'
  | .fr ds cs' => ∀ p ws F' H', EnvOk L F' (vs.map some) cs' H' → Step (vs.map some) cs F H (vs.map some) cs' F' H' → H p = none → F' p = none → H' p = some (.lst ws) → Reps L.K F' ws ds → Q (.ref p) H'
  | .ex x cs' => ∀ c dd F' H', EnvOk L F' (vs.map some) cs' H' → Step (vs.map some) cs F H (vs.map some) cs' F' H' → XOk L F' c dd x → E c dd H'
/-- the promise: what mf tells of the arguments' cells -/
def spD (L : Lx) (n : Nat) (mf : DEnv → FRes) : Sp := fun vs H Q E => vs.length = n ∧ ∃ cs F, EnvOk L F (vs.map some) cs H ∧ (∀ (i : Nat) xs, cs[i]? ≠ some (Cell.owv xs)) ∧ WantF L vs cs F H (mf cs) Q E
def kpD (n : Nat) (Δ : DEnv) : DEnv := (List.range n).map fun (i : Nat) => match (Δ[i]? : Option Cell) with
  | some (Cell.pav xs) => Cell.pav xs
  | _ => Cell.no
def bodyF (n N : Nat) (ms : DEnv → SRes) : DEnv → FRes := fun cs => match ms (cs ++ List.replicate (N - n) .no) with
  | .nx Δ => .ok .non (kpD n Δ)
  | .rt d Δ => .ok d (kpD n Δ)
  | .rf ds Δ => .fr ds (kpD n Δ)
  | .ex x Δ => .ex x (kpD n Δ)
  | _ => .stuck
section
variable {L : Lx} {F F' H H' : Hp} {vs : List V} {cs : DEnv} {n : Nat}
theorem kpD_get {Δ : DEnv} {i : Nat} {c : Cell} (h : (kpD n Δ)[i]? = some c) : c = .no ∨ ∃ xs, c = .pav xs ∧ Δ[i]? = some (.pav xs) ∧ i < n := by
  unfold kpD at h
  rw [List.getElem?_map] at h
  cases q : (List.range n)[i]? with
  | none => rw [q] at h; cases h
  | some j =>
    rw [q] at h
    have hi : i < n := by have := (List.getElem?_eq_some_iff.mp q).1; simpa using this
    have hj : j = i := by rw [List.getElem?_range hi] at q; cases q; rfl
    subst hj
    replace h : some (match (Δ[j]? : Option Cell) with | some (Cell.pav xs) => Cell.pav xs | _ => Cell.no) = some c := h
    split at h
    · rename_i xs e; cases h; exact .inr ⟨xs, rfl, e, hi⟩
    · cases h; exact .inl rfl
theorem kpD_pa {Δ : DEnv} {i : Nat} {xs : OwnV} (h : Δ[i]? = some (.pav xs)) (hi : i < n) : (kpD n Δ)[i]? = some (.pav xs) := by
  unfold kpD
  rw [List.getElem?_map, List.getElem?_range hi]
  show some (match (Δ[i]? : Option Cell) with | some (Cell.pav xs) => Cell.pav xs | _ => Cell.no) = _
  rw [h]
theorem slot_start {N : List Str} {i : Nat} : slot (L2.start N vs) i = slot (vs.map some) i := by
  unfold slot L2.start
  by_cases h : i < vs.length
  · rw [List.getElem?_append_left (by simpa using h)]
  · rw [List.getElem?_append_right (by simpa using h), List.getElem?_replicate, List.getElem?_eq_none (l := vs.map some) (by simpa using h)]
    split <;> rfl
theorem app_no {m i : Nat} {c : Cell} (h : (cs ++ List.replicate m Cell.no)[i]? = some c) : c = .no ∨ cs[i]? = some c := by
  by_cases hi : i < cs.length
  · rw [List.getElem?_append_left hi] at h; exact .inr h
  · rw [List.getElem?_append_right (by omega), List.getElem?_replicate] at h
    split at h
    · cases h; exact .inl rfl
    · cases h
theorem env_start {N : List Str} (env : EnvOk L F (vs.map some) cs H) : EnvOk L F (L2.start N vs) (cs ++ List.replicate (N.length - vs.length) .no) H := by
  have hl := env.len
  rw [List.length_map] at hl
  refine ⟨env.ex, by unfold L2.start; rw [List.length_append, List.length_append, List.length_map, List.length_replicate, List.length_replicate, hl], fun i c hc => ?_, fun i j c c' xs ys a hij hi hj h1 h2 e1 e2 => ?_⟩
  · rw [slot_start]
    rcases app_no hc with rfl | h
    · trivial
    · exact env.cells i c h
  · rw [slot_start] at e1 e2
    rcases app_no hi with rfl | g1
    · cases h1
    · rcases app_no hj with rfl | g2
      · cases h2
      · exact env.apart i j c c' xs ys a hij g1 g2 h1 h2 e1 e2
theorem own_start {N : List Str} {m : Nat} {b : Addr} (h : Own (L2.start N vs) (cs ++ List.replicate m .no) b) : Own (vs.map some) cs b := by
  obtain ⟨i, c, xs, h1, h2, h3⟩ := h
  rcases app_no h1 with rfl | g
  · cases h2
  · exact ⟨i, c, xs, g, h2, by rw [← slot_start (N := N)]; exact h3⟩
theorem own_start' {N : List Str} {m : Nat} {b : Addr} (h : Own (vs.map some) cs b) : Own (L2.start N vs) (cs ++ List.replicate m .no) b := by
  obtain ⟨i, c, xs, h1, h2, h3⟩ := h
  exact ⟨i, c, xs, by rw [List.getElem?_append_left (List.getElem?_eq_some_iff.mp h1).1]; exact h1, h2, by rw [slot_start]; exact h3⟩
theorem env_end {N : List Str} {m : Nat} {σ' : L2.St} {Δ' : DEnv} (hn : vs.length = n) (env : EnvOk L F (vs.map some) cs H) (env' : EnvOk L F' σ' Δ' H') (st : Step (L2.start N vs) (cs ++ List.replicate m .no) F H σ' Δ' F' H') :
    EnvOk L F' (vs.map some) (kpD n Δ') H' ∧ Step (vs.map some) cs F H (vs.map some) (kpD n Δ') F' H' := by
  have hl := env.len
  rw [List.length_map] at hl
  have same : ∀ (i : Nat) xs, Δ'[i]? = some (Cell.pav xs) → slot σ' i = slot (vs.map some) i := fun i xs h => by
    obtain ⟨ys, e⟩ := st.pb i xs h
    obtain ⟨zs, e1, e2⟩ := st.pa i ys e
    rw [e2, slot_start]
  refine ⟨⟨env'.ex, by unfold kpD; rw [List.length_map, List.length_map, List.length_range, hn], fun i c hc => ?_, fun i j c c' xs ys a hij hi hj h1 h2 e1 e2 => ?_⟩, ⟨st.fr, fun b o h no => st.kp b o h fun z => no (own_start z), fun b o h => ?_, fun b ⟨i, c, xs, hi, h1, e1⟩ => ?_, fun i xs h => ?_, fun i xs h => ?_, st.th⟩⟩
  · rcases kpD_get hc with rfl | ⟨xs, rfl, h, hi⟩
    · trivial
    · rw [← same i xs h]; exact env'.cells i _ h
  · rcases kpD_get hi with rfl | ⟨xs', rfl, g1, _⟩
    · cases h1
    · rcases kpD_get hj with rfl | ⟨ys', rfl, g2, _⟩
      · cases h2
      · rw [← same i _ g1] at e1
        rw [← same j _ g2] at e2
        exact env'.apart i j _ _ xs ys a hij g1 g2 h1 h2 e1 e2
  · rcases st.fn b o h with z | z | z
    · exact .inl z
    · exact .inr (.inl z)
    · exact .inr (.inr (own_start z))
  · rcases kpD_get hi with rfl | ⟨xs', rfl, g1, _⟩
    · cases h1
    · rcases st.ow b ⟨i, _, xs, g1, h1, by rw [same i _ g1]; exact e1⟩ with z | z
      · exact .inl (own_start z)
      · exact .inr z
  · have hi : i < cs.length := (List.getElem?_eq_some_iff.mp h).1
    obtain ⟨ys, e1, e2⟩ := st.pa i xs (by rw [List.getElem?_append_left hi]; exact h)
    exact ⟨ys, kpD_pa e1 (by omega), rfl⟩
  · rcases kpD_get h with q | ⟨xs', q, g1, _⟩
    · cases q
    · obtain ⟨ys, e⟩ := st.pb i xs' g1
      rcases app_no e with q2 | q2
      · cases q2
      · exact ⟨ys, q2⟩
end
section
variable {P : Program} {w : World} {K : PySem.W.Frag} {mg : Str → Option Value} {base : Heap} {L : Lx}
/-- a def keeps what its body's reading tells -/
theorem fn_body {x qual : Str} {st : Stmt} {f : Addr} {fd : FuncData} {N ps : List Str} {k : Nat} {ms : DEnv → SRes} (Fn : Fun K x qual st f fd) (S : FnScope N ps (defScope st))
    (hb : ∀ (cdv : Value) (A : Around) (outer : List PySem.Env) (s : Shared) (H : Hp) (E : XK), Room k (A.deeper (PyProof.Rows.envOfC qual (defScope st) s.heap.objs.size f cdv)) →
      Takes (cxOf (L2.CX P w) P w K mg base N qual (defScope st) f cdv A outer s H E) (fun cls d _ H => E cls d H) →
      DSs (cxOf (L2.CX P w) P w K mg base N qual (defScope st) f cdv A outer s H E) L (fun cls d _ H => E cls d H) (defBody st) ms) :
    FnOk P w K mg base (L2.CX P w) (k + 1) f fd ps (spD L ps.length (bodyF ps.length N.length ms)) := by
  refine Fn.okX S (fun vs H Q E h => h.1) (fun cdv A outer s H vs Q E hr h => ?_)
  obtain ⟨ts, p, sd⟩ := (hb cdv A outer s H E hr (takes_of rfl rfl rfl rfl)).ex
  refine ⟨ts, p, ?_⟩
  obtain ⟨hn, cs, F, env, now, wf⟩ := h
  have env0 := env_start (N := N) env
  refine sd (L2.start N vs) _ F H _ env0 ?_
  unfold bodyF at wf
  rw [← hn] at wf
  generalize hms : ms (cs ++ List.replicate (N.length - vs.length) Cell.no) = r at wf ⊢
  cases r with
  | stuck => exact wf
  | bk Δ => exact wf.elim
  | ct Δ => exact wf.elim
  | nx Δ => exact fun σ' F' H' e t => let ⟨a, b⟩ := env_end hn env e t; wf .non F' H' (hn ▸ a) (hn ▸ b) .non
  | rt d Δ => exact fun σ' v F' H' e t r => let ⟨a, b⟩ := env_end hn env e t; wf v F' H' (hn ▸ a) (hn ▸ b) r
  | ex x Δ => exact fun σ' c dd F' H' e t xo => let ⟨a, b⟩ := env_end hn env e t; wf c dd F' H' (hn ▸ a) (hn ▸ b) xo
  | rf ds Δ =>
    intro σ' p ws F' H' e t hp hf hh hpa rs
    obtain ⟨a, b⟩ := env_end hn env e t
    refine wf p ws F' H' (hn ▸ a) (hn ▸ b) ?_ hf hh rs
    rcases hp with z | z
    · exact z
    · obtain ⟨i, c, xs, h1, h2, h3⟩ := z
      rcases app_no h1 with rfl | g
      · cases h2
      · cases c with
        | owv ys => exact absurd g (now i ys)
        | pav ys =>
          obtain ⟨zs, e1, e2⟩ := t.pa i ys h1
          exact absurd (e2.trans h3) (hpa i zs e1)
        | _ => cases h2
end

/-! ### calls: an argument is a value, or an own list that the callee may change -/
abbrev Arg := Sum D Nat
def getO (Δ : DEnv) (i : Nat) : Option OwnV := (Δ[i]?).bind Cell.own?
def aV (m : DEnv → Res D) (r : DEnv → Res (List Arg)) : DEnv → Res (List Arg) := fun Δ => (m Δ).bind fun d Δ1 => (r Δ1).map (Sum.inl d :: ·)
def aO (i : Nat) (r : DEnv → Res (List Arg)) : DEnv → Res (List Arg) := fun Δ => match getO Δ i with
  | none => .stuck
  | some _ => (r Δ).map (Sum.inr i :: ·)
def argOk (L : Lx) (F : Hp) (σ : L2.St) (v : V) : Arg → Prop
  | .inl d => Rep L.K F v d
  | .inr i => slot σ i = some v
def ArgsOk (L : Lx) (F : Hp) (σ : L2.St) (vs : List V) (zs : List Arg) : Prop := vs.length = zs.length ∧ ∀ (k : Nat) v z, vs[k]? = some v → zs[k]? = some z → argOk L F σ v z
def SndC (L : Lx) (W : WX) (ta : TA) (m : DEnv → Res (List Arg)) : Prop := ∀ (σ : L2.St) (Δ : DEnv) (F H : Hp) (Q : List V → Hp → Prop), EnvOk L F σ Δ H → Want L W σ Δ F H (m Δ) (fun zs _ F' H' => ∀ vs, ArgsOk L F' σ vs zs → Q vs H') → ta σ H Q
structure DC (X : Cx) (L : Lx) (W : WX) (es : List Expr) (m : DEnv → Res (List Arg)) : Prop where
  ex : ∃ ta, PA X es ta ∧ SndC L W ta m
  ln : ∀ Δ zs Δ1, m Δ = .ok zs Δ1 → zs.length = es.length
section
variable {X : Cx} {L : Lx} {W : WX} {σ : L2.St} {Δ Δ' Δ1 : DEnv} {F F' H H' : Hp} {e : Expr} {es : List Expr} {me : DEnv → Res D} {r : DEnv → Res (List Arg)} {x : Str} {p pos : Pos} {i : Nat} {zs : List Arg} {vs : List V}
theorem EnvOk.getO {w : OwnV} (env : EnvOk L F σ Δ H) (h : KL.getO Δ i = some w) : ∃ a u, slot σ i = some (.ref a) ∧ H a = some u ∧ F a = none ∧ OwnOk L.K F u w := by
  obtain ⟨c, h1, h2⟩ := Option.bind_eq_some_iff.mp h
  exact (env.cells i c h1).own h2
theorem argsOk_cons {v : V} {z : Arg} (h : argOk L F σ v z) (hs : ArgsOk L F σ vs zs) : ArgsOk L F σ (v :: vs) (z :: zs) := by
  refine ⟨by simp [hs.1], fun k u y h1 h2 => ?_⟩
  cases k with
  | zero => simp at h1 h2; subst h1; subst h2; exact h
  | succ k => exact hs.2 k u y (by simpa using h1) (by simpa using h2)
theorem c_nil : DC X L W [] (fun Δ => .ok [] Δ) := ⟨⟨_, pa_nil, fun σ Δ F H Q env w => w F H env .refl [] ⟨rfl, fun k v z h => by simp at h⟩⟩, fun Δ zs Δ1 h => by cases h; rfl⟩
theorem c_val (h : DE X L W e me) (hs : DC X L W es r) (hst : starEach (e :: es) X.env = (false, eval e X.env) :: starEach es X.env := by rfl) : DC X L W (e :: es) (aV me r) := by
  obtain ⟨_, p1, s1⟩ := h.ex
  obtain ⟨_, p2, s2⟩ := hs.ex
  refine ⟨⟨_, pa_cons p1 p2 hst, fun σ Δ F H Q env w => ?_⟩, fun Δ zs Δ2 h => ?_⟩
  case refine_2 =>
    unfold aV at h
    cases q : me Δ with
    | stuck => rw [q] at h; cases h
    | ex x Δ' => rw [q] at h; cases h
    | ok d Δ1 =>
      rw [q] at h
      replace h : (r Δ1).map (Sum.inl d :: ·) = .ok zs Δ2 := h
      cases q2 : r Δ1 with
      | stuck => rw [q2] at h; cases h
      | ex x Δ' => rw [q2] at h; cases h
      | ok ys Δ3 => rw [q2] at h; cases h; exact congrArg (· + 1) (hs.ln _ _ _ q2)
  refine s1 σ Δ F H _ env (w.bind.mono fun d Δ1 F1 H1 env1 w1 v rv => ?_)
  refine s2 σ Δ1 F1 H1 _ env1 ?_
  have w2 : Want L W σ Δ1 F1 H1 ((r Δ1).map (Sum.inl d :: ·)) _ := w1
  cases q : r Δ1 with
  | stuck => rw [q] at w2; exact w2
  | ex x Δ' => rw [q] at w2; exact w2
  | ok zs Δ2 =>
    rw [q] at w2
    intro F2 H2 env2 st2 vs rs
    exact w2 F2 H2 env2 st2 (v :: vs) (argsOk_cons (rv.mono st2.fr) rs)
theorem c_own (hN : X.N[i]? = some x) (hv : Vis X.env.scope x) (hd : (x == ("__debug__" : Str)) = false) (hcd : (x == ("__classdict__" : Str)) = false) (hs : DC X L W es r)
    (hst : starEach (Expr.Name x p :: es) X.env = (false, eval (.Name x p) X.env) :: starEach es X.env := by rfl) : DC X L W (.Name x p :: es) (aO i r) := by
  obtain ⟨_, p2, s2⟩ := hs.ex
  refine ⟨⟨_, pa_cons (pe_var hN hv hd hcd) p2 hst, fun σ Δ F H Q env w => ?_⟩, fun Δ zs Δ2 h => ?_⟩
  case refine_2 =>
    unfold aO at h
    split at h
    · cases h
    · cases q2 : r Δ with
      | stuck => rw [q2] at h; cases h
      | ex x Δ' => rw [q2] at h; cases h
      | ok ys Δ3 => rw [q2] at h; cases h; exact congrArg (· + 1) (hs.ln _ _ _ q2)
  unfold aO at w
  cases q0 : getO Δ i with
  | none => rw [q0] at w; exact w.elim
  | some xs =>
    rw [q0] at w
    obtain ⟨a, us, e1, _⟩ := env.getO q0
    refine ⟨.ref a, slot_some e1, s2 σ Δ F H _ env ?_⟩
    have w2 : Want L W σ Δ F H ((r Δ).map (Sum.inr i :: ·)) _ := w
    cases q : r Δ with
    | stuck => rw [q] at w2; exact w2
    | ex x Δ' => rw [q] at w2; exact w2
    | ok zs Δ2 =>
      rw [q] at w2
      intro F2 H2 env2 st2 vs rs
      exact w2 F2 H2 env2 st2 (.ref a :: vs) (argsOk_cons (z := .inr i) e1 rs)
/-- the callee's cells -/
def cellsOf (Δ : DEnv) : List Arg → Option DEnv
  | [] => some []
  | .inl d :: zs => (cellsOf Δ zs).map (Cell.va d :: ·)
  | .inr i :: zs => (getO Δ i).bind fun xs => (cellsOf Δ zs).map (Cell.pav xs :: ·)
def slotsOf : List Arg → List Nat
  | [] => []
  | .inl _ :: zs => slotsOf zs
  | .inr i :: zs => i :: slotsOf zs
def backD : List Arg → DEnv → DEnv → DEnv
  | .inr i :: zs, .pav xs :: cs, Δ => backD zs cs (setW Δ i xs)
  | _ :: zs, _ :: cs, Δ => backD zs cs Δ
  | _, _, Δ => Δ
theorem cellsOf_get : ∀ {zs : List Arg} {cs : DEnv}, cellsOf Δ zs = some cs → cs.length = zs.length ∧ ∀ (k : Nat) z c, zs[k]? = some z → cs[k]? = some c → (∃ d, z = .inl d ∧ c = .va d) ∨ ∃ i xs, z = .inr i ∧ c = .pav xs ∧ getO Δ i = some xs
  | [], cs, h => by cases h; exact ⟨rfl, fun k z c h => by simp at h⟩
  | .inl d :: zs, cs, h => by
    obtain ⟨cs', h1, rfl⟩ := Option.map_eq_some_iff.mp h
    obtain ⟨l, q⟩ := cellsOf_get h1
    refine ⟨by simp [l], fun k z c e1 e2 => ?_⟩
    cases k with
    | zero => simp at e1 e2; subst e1 e2; exact .inl ⟨d, rfl, rfl⟩
    | succ k => exact q k z c (by simpa using e1) (by simpa using e2)
  | .inr i :: zs, cs, h => by
    obtain ⟨xs, h0, h2⟩ := Option.bind_eq_some_iff.mp h
    obtain ⟨cs', h3, rfl⟩ := Option.map_eq_some_iff.mp h2
    obtain ⟨l, q⟩ := cellsOf_get h3
    refine ⟨by simp [l], fun k z c e1 e2 => ?_⟩
    cases k with
    | zero => simp at e1 e2; subst e1 e2; exact .inr ⟨i, xs, rfl, rfl, h0⟩
    | succ k => exact q k z c (by simpa using e1) (by simpa using e2)
theorem mem_slots {i : Nat} : ∀ {zs : List Arg}, i ∈ slotsOf zs ↔ ∃ k : Nat, zs[k]? = some (.inr i)
  | [] => by simp [slotsOf]
  | .inl d :: zs => by
    rw [slotsOf, mem_slots]
    constructor
    · rintro ⟨k, h⟩; exact ⟨k + 1, by simpa using h⟩
    · rintro ⟨k, h⟩
      cases k with
      | zero => simp at h
      | succ k => exact ⟨k, by simpa using h⟩
  | .inr j :: zs => by
    rw [slotsOf, List.mem_cons, mem_slots]
    constructor
    · rintro (rfl | ⟨k, h⟩)
      · exact ⟨0, rfl⟩
      · exact ⟨k + 1, by simpa using h⟩
    · rintro ⟨k, h⟩
      cases k with
      | zero => simp at h; exact .inl h.symm
      | succ k => exact .inr ⟨k, by simpa using h⟩
theorem slots_inj : ∀ {zs : List Arg} {i k k' : Nat}, (slotsOf zs).Nodup → zs[k]? = some (.inr i) → zs[k']? = some (.inr i) → k = k'
  | [], i, k, k', _, h, _ => by simp at h
  | z :: zs, i, 0, 0, _, _, _ => rfl
  | z :: zs, i, 0, k' + 1, nd, h, h' => by
    simp at h h'
    subst h
    exact absurd (mem_slots.mpr ⟨k', h'⟩) (List.nodup_cons.mp nd).1
  | z :: zs, i, k + 1, 0, nd, h, h' => by
    simp at h h'
    subst h'
    exact absurd (mem_slots.mpr ⟨k, h⟩) (List.nodup_cons.mp nd).1
  | z :: zs, i, k + 1, k' + 1, nd, h, h' => by
    have nd' : (slotsOf zs).Nodup := by
      cases z with
      | inl d => exact nd
      | inr j => exact (List.nodup_cons.mp nd).2
    exact congrArg (· + 1) (slots_inj (k := k) (k' := k') nd' (by simpa using h) (by simpa using h'))
def putC (w : OwnV) : Cell → Cell
  | .owv _ => .owv w
  | .pav _ => .pav w
  | c => c
theorem setW_get {w : OwnV} {j : Nat} : (setW Δ i w)[j]? = if j = i then (Δ[i]?).map (putC w) else Δ[j]? := by
  unfold setW
  by_cases hj : j = i
  · subst hj
    rw [if_pos rfl]
    cases q : Δ[j]? with
    | none => exact q
    | some c =>
      have hl := (List.getElem?_eq_some_iff.mp q).1
      cases c with
      | owv ys => show (Δ.set j (.owv w))[j]? = _; rw [List.getElem?_set_self hl]; rfl
      | pav ys => show (Δ.set j (.pav w))[j]? = _; rw [List.getElem?_set_self hl]; rfl
      | _ => exact q
  · rw [if_neg hj]
    split
    · rw [List.getElem?_set_ne (Ne.symm hj)]
    · rw [List.getElem?_set_ne (Ne.symm hj)]
    · rfl
theorem setW_len {w : OwnV} : (setW Δ i w).length = Δ.length := by
  unfold setW; split <;> simp
theorem backD_len : ∀ {zs : List Arg} {cs Δ : DEnv}, (backD zs cs Δ).length = Δ.length := by
  intro zs
  induction zs with
  | nil => intro cs Δ; cases cs <;> rfl
  | cons z zs ih =>
    intro cs Δ
    cases cs with
    | nil => cases z <;> rfl
    | cons c cs =>
      cases z with
      | inl d => exact ih
      | inr i => cases c <;> first | exact ih | (show (backD zs cs (setW Δ i _)).length = _; rw [ih, setW_len])
theorem backD_out {j : Nat} : ∀ {zs : List Arg} {cs Δ : DEnv}, j ∉ slotsOf zs → (backD zs cs Δ)[j]? = Δ[j]? := by
  intro zs
  induction zs with
  | nil => intro cs Δ _; cases cs <;> rfl
  | cons z zs ih =>
    intro cs Δ h
    cases cs with
    | nil => cases z <;> rfl
    | cons c cs =>
      cases z with
      | inl d => exact ih h
      | inr i =>
        rw [slotsOf, List.mem_cons, not_or] at h
        cases c with
        | pav xs => show (backD zs cs (setW Δ i xs))[j]? = _; rw [ih h.2, setW_get, if_neg h.1]
        | _ => exact ih h.2
theorem backD_in {j k : Nat} : ∀ {zs : List Arg} {cs Δ : DEnv} {xs : OwnV}, (slotsOf zs).Nodup → zs[k]? = some (.inr j) → cs[k]? = some (.pav xs) → (backD zs cs Δ)[j]? = (Δ[j]?).map (putC xs) := by
  intro zs
  induction zs generalizing k with
  | nil => intro cs Δ xs _ h; simp at h
  | cons z zs ih =>
    intro cs Δ xs nd h1 h2
    cases cs with
    | nil => simp at h2
    | cons c cs =>
      cases k with
      | zero =>
        simp at h1 h2; subst h1 h2
        show (backD zs cs (setW Δ j xs))[j]? = _
        rw [backD_out (List.nodup_cons.mp nd).1, setW_get, if_pos rfl]
      | succ k =>
        have g1 : zs[k]? = some (.inr j) := by simpa using h1
        have g2 : cs[k]? = some (.pav xs) := by simpa using h2
        cases z with
        | inl d => exact ih nd g1 g2
        | inr i =>
          have nd' := (List.nodup_cons.mp nd).2
          have ne : j ≠ i := fun e => (List.nodup_cons.mp nd).1 (mem_slots.mpr ⟨k, by rw [← e]; exact g1⟩)
          cases c with
          | pav ys => show (backD zs cs (setW Δ i ys))[j]? = _; rw [ih nd' g1 g2, setW_get, if_neg ne]
          | _ => exact ih nd' g1 g2
/-- the arguments, as the callee knows them -/
theorem env_args {cs : DEnv} (env : EnvOk L F σ Δ H) (nd : (slotsOf zs).Nodup) (hc : cellsOf Δ zs = some cs) (ha : ArgsOk L F σ vs zs) : EnvOk L F (vs.map some) cs H ∧ (∀ (i : Nat) xs, cs[i]? ≠ some (Cell.owv xs)) ∧ ∀ b, Own (vs.map some) cs b → Own σ Δ b := by
  obtain ⟨hl, get⟩ := cellsOf_get hc
  have at_ : ∀ (k : Nat) c, cs[k]? = some c → ∃ v z, vs[k]? = some v ∧ zs[k]? = some z ∧ argOk L F σ v z ∧ ((∃ d, z = .inl d ∧ c = .va d) ∨ ∃ i xs, z = .inr i ∧ c = .pav xs ∧ getO Δ i = some xs) := fun k c h => by
    have hk := (List.getElem?_eq_some_iff.mp h).1
    have hz : k < zs.length := by omega
    have hv : k < vs.length := by rw [ha.1]; exact hz
    exact ⟨vs[k], zs[k], List.getElem?_eq_getElem hv, List.getElem?_eq_getElem hz, ha.2 k _ _ (List.getElem?_eq_getElem hv) (List.getElem?_eq_getElem hz), get k _ c (List.getElem?_eq_getElem hz) h⟩
  have slv : ∀ {k : Nat} {v : V}, vs[k]? = some v → slot (vs.map some) k = some v := fun {k v} h => by unfold slot; rw [List.getElem?_map, h]; rfl
  refine ⟨⟨env.ex, by rw [List.length_map, hl, ha.1], fun k c h => ?_, fun k k' c c' xs ys a hk hi hj h1 h2 e1 e2 => ?_⟩, fun k xs h => ?_, fun b ⟨k, c, xs, h, h1, e1⟩ => ?_⟩
  · obtain ⟨v, z, g1, g2, g3, ⟨d, rfl, rfl⟩ | ⟨i, xs, rfl, rfl, g4⟩⟩ := at_ k c h
    · exact ⟨v, slv g1, g3⟩
    · obtain ⟨a, us, e1, e2, e3, e4⟩ := env.getO g4
      rw [slv g1]
      exact ⟨a, us, (show some v = _ from (show slot σ i = some v from g3) ▸ e1), e2, e3, e4⟩
  · obtain ⟨v, z, g1, g2, g3, ⟨d, rfl, rfl⟩ | ⟨i, xs', rfl, rfl, g4⟩⟩ := at_ k c hi
    · cases h1
    obtain ⟨v', z', f1, f2, f3, ⟨d, rfl, rfl⟩ | ⟨i', ys', rfl, rfl, f4⟩⟩ := at_ k' c' hj
    · cases h2
    rw [slv g1] at e1
    rw [slv f1] at e2
    cases e1; cases e2
    obtain ⟨c1, q1, q2⟩ := Option.bind_eq_some_iff.mp g4
    obtain ⟨c2, q3, q4⟩ := Option.bind_eq_some_iff.mp f4
    have ne : i ≠ i' := fun z => hk (slots_inj nd g2 (by rw [z]; exact f2))
    exact env.apart i i' c1 c2 _ _ a ne q1 q3 q2 q4 g3 f3
  · obtain ⟨v, z, g1, g2, g3, ⟨d, rfl, q⟩ | ⟨i, xs', rfl, q, g4⟩⟩ := at_ k _ h
    · cases q
    · cases q
  · obtain ⟨v, z, g1, g2, g3, ⟨d, rfl, rfl⟩ | ⟨i, xs', rfl, rfl, g4⟩⟩ := at_ k c h
    · cases h1
    · obtain ⟨c1, q1, q2⟩ := Option.bind_eq_some_iff.mp g4
      rw [slv g1] at e1; cases e1
      exact ⟨i, c1, xs', q1, q2, g3⟩
/-- the frame behind the call -/
theorem env_back {cs cs' : DEnv} (env : EnvOk L F σ Δ H) (nd : (slotsOf zs).Nodup) (hc : cellsOf Δ zs = some cs) (ha : ArgsOk L F σ vs zs) (env' : EnvOk L F' (vs.map some) cs' H') (st : Step (vs.map some) cs F H (vs.map some) cs' F' H') :
    EnvOk L F' σ (backD zs cs' Δ) H' ∧ Step σ Δ F H σ (backD zs cs' Δ) F' H' := by
  obtain ⟨hl, get⟩ := cellsOf_get hc
  obtain ⟨_, _, own⟩ := env_args env nd hc ha
  have slv : ∀ {k : Nat} {v : V}, vs[k]? = some v → slot (vs.map some) k = some v := fun {k v} h => by unfold slot; rw [List.getElem?_map, h]; rfl
  -- an own slot that was handed on
  have inside : ∀ (k i : Nat), zs[k]? = some (Sum.inr i) → ∃ (v : V) (c0 : Cell) (xs xs' : OwnV), vs[k]? = some v ∧ slot σ i = some v ∧ Δ[i]? = some c0 ∧ c0.own? = some xs ∧ cs'[k]? = some (Cell.pav xs') ∧ (backD zs cs' Δ)[i]? = some (putC xs' c0) := fun k i h => by
    have hk := (List.getElem?_eq_some_iff.mp h).1
    have hv : k < vs.length := by rw [ha.1]; exact hk
    have hcs : k < cs.length := by omega
    rcases get k _ _ h (List.getElem?_eq_getElem hcs) with ⟨d, q, _⟩ | ⟨i', xs, q1, q2, q3⟩
    · cases q
    · cases q1
      obtain ⟨c0, g1, g2⟩ := Option.bind_eq_some_iff.mp q3
      obtain ⟨xs', g3, _⟩ := st.pa k xs (by rw [List.getElem?_eq_getElem hcs, q2])
      refine ⟨vs[k], c0, xs, xs', List.getElem?_eq_getElem hv, ha.2 k _ _ (List.getElem?_eq_getElem hv) h, g1, g2, g3, ?_⟩
      rw [backD_in nd h g3, g1]; rfl
  have put_list : ∀ {c0 : Cell} {xs xs' : OwnV}, c0.own? = some xs → (putC xs' c0).own? = some xs' := fun {c0 xs xs'} h => by cases c0 <;> first | rfl | cases h
  -- an own slot that was not
  have nown : ∀ (j : Nat) c xs b, Δ[j]? = some c → c.own? = some xs → slot σ j = some (.ref b) → j ∉ slotsOf zs → ¬ Own (vs.map some) cs b := fun j c xs b h1 h2 h3 h4 ⟨k, ck, ys, g1, g2, g3⟩ => by
    have hk := (List.getElem?_eq_some_iff.mp g1).1
    have hz : k < zs.length := by omega
    have hv : k < vs.length := by rw [ha.1]; exact hz
    rcases get k _ _ (List.getElem?_eq_getElem hz) g1 with ⟨d, q, q2⟩ | ⟨i, zs', q1, q2, q3⟩
    · subst q2; cases g2
    · obtain ⟨c0, f1, f2⟩ := Option.bind_eq_some_iff.mp q3
      have f3 : slot σ i = some vs[k] := by
        have := ha.2 k _ _ (List.getElem?_eq_getElem hv) (List.getElem?_eq_getElem hz)
        rw [q1] at this; exact this
      rw [slv (List.getElem?_eq_getElem hv)] at g3
      have ne : i ≠ j := fun z => h4 (by rw [← z]; exact mem_slots.mpr ⟨k, by rw [List.getElem?_eq_getElem hz, q1]⟩)
      exact env.apart i j c0 c _ _ b ne f1 h1 f2 h2 (f3.trans g3) h3
  have cell : ∀ (j : Nat) c, (backD zs cs' Δ)[j]? = some c → (j ∉ slotsOf zs ∧ Δ[j]? = some c) ∨ ∃ (k : Nat) (v : V) (c0 : Cell) (xs xs' : OwnV), zs[k]? = some (Sum.inr j) ∧ vs[k]? = some v ∧ slot σ j = some v ∧ Δ[j]? = some c0 ∧ c0.own? = some xs ∧ cs'[k]? = some (Cell.pav xs') ∧ c = putC xs' c0 := fun j c h => by
    by_cases hj : j ∈ slotsOf zs
    · obtain ⟨k, hk⟩ := mem_slots.mp hj
      obtain ⟨v, c0, xs, xs', g1, g2, g3, g4, g5, g6⟩ := inside k j hk
      rw [g6] at h; cases h
      exact .inr ⟨k, v, c0, xs, xs', hk, g1, g2, g3, g4, g5, rfl⟩
    · rw [backD_out hj] at h; exact .inl ⟨hj, h⟩
  have lst0 : ∀ (j : Nat) c ys, (backD zs cs' Δ)[j]? = some c → c.own? = some ys → ∃ c0 xs, Δ[j]? = some c0 ∧ c0.own? = some xs := fun j c ys h h2 => by
    rcases cell j c h with ⟨_, g⟩ | ⟨k, v, c0, xs, xs', _, _, _, g3, g4, _, _⟩
    · exact ⟨c, ys, g, h2⟩
    · exact ⟨c0, xs, g3, g4⟩
  refine ⟨⟨env'.ex, by rw [backD_len]; exact env.len, fun j c h => ?_, fun j k c c' xs ys a hjk hj hk h1 h2 e1 e2 => ?_⟩, ?_⟩
  · rcases cell j c h with ⟨hj, g⟩ | ⟨k, v, c0, xs, xs', g0, g1, g2, g3, g4, g5, rfl⟩
    · have q := env.cells j c g
      have keep : ∀ us, c.own? = some us → (∃ b u, slot σ j = some (.ref b) ∧ H b = some u ∧ F b = none ∧ OwnOk L.K F u us) → ∃ b u, slot σ j = some (.ref b) ∧ H' b = some u ∧ F' b = none ∧ OwnOk L.K F' u us := by
        rintro us hu ⟨b, ws, f1, f2, f3, f4⟩
        have no := nown j c us b g hu f1 hj
        refine ⟨b, ws, f1, st.kp b _ f2 no, ?_, f4.mono st.fr⟩
        cases z : F' b with
        | none => rfl
        | some o =>
          rcases st.fn b o z with y | y | y
          · rw [f3] at y; cases y
          · rw [f2] at y; cases y
          · exact absurd y no
      cases c with
      | no => trivial
      | va d => obtain ⟨v, f1, f2⟩ := q; exact ⟨v, f1, f2.mono st.fr⟩
      | owv us => exact keep us rfl q
      | pav us => exact keep us rfl q
      | xc x => obtain ⟨a, c, dd, f1, f2, f3⟩ := q; exact ⟨a, c, dd, f1, f2, f3.mono st.fr⟩
    · obtain ⟨a, ws, f1, f2, f3, f4⟩ := env'.cells k _ g5
      rw [slv g1] at f1
      rw [g2]
      cases c0 with
      | owv us => exact ⟨a, ws, f1, f2, f3, f4⟩
      | pav us => exact ⟨a, ws, f1, f2, f3, f4⟩
      | _ => cases g4
  · obtain ⟨c3, a3, g1, g2⟩ := lst0 j c xs hj h1
    obtain ⟨c4, a4, g3, g4⟩ := lst0 k c' ys hk h2
    exact env.apart j k c3 c4 a3 a4 a hjk g1 g3 g2 g4 e1 e2
  · refine ⟨st.fr, fun b o h n => st.kp b o h fun z => n (own b z), fun b o h => ?_, fun b ⟨j, c, xs, hj, h1, e1⟩ => ?_, fun j xs hj => ?_, fun j xs hj => ?_, st.th⟩
    · rcases st.fn b o h with z | z | z
      · exact .inl z
      · exact .inr (.inl z)
      · exact .inr (.inr (own b z))
    · obtain ⟨c0, a0, g1, g2⟩ := lst0 j c xs hj h1
      exact .inl ⟨j, c0, a0, g1, g2, e1⟩
    · by_cases hs : j ∈ slotsOf zs
      · obtain ⟨k, hk⟩ := mem_slots.mp hs
        obtain ⟨v, c0, as, xs', g1, g2, g3, g4, g5, g6⟩ := inside k j hk
        rw [hj] at g3; cases g3
        exact ⟨xs', g6, rfl⟩
      · exact ⟨xs, by rw [backD_out hs]; exact hj, rfl⟩
    · rcases cell j _ hj with ⟨_, g⟩ | ⟨k, v, c0, as, xs', g0, g1, g2, g3, g4, g5, q⟩
      · exact ⟨xs, g⟩
      · cases c0 with
        | pav us => exact ⟨us, g3⟩
        | owv us => cases q
        | _ => cases g4
def FRes.toR (zs : List Arg) (Δ : DEnv) : FRes → Res D
  | .ok d cs => .ok d (backD zs cs Δ)
  | .ex x cs => .ex x (backD zs cs Δ)
  | _ => .stuck
def FRes.toF (zs : List Arg) (Δ : DEnv) : FRes → Res (List D)
  | .fr ds cs => .ok ds (backD zs cs Δ)
  | .ex x cs => .ex x (backD zs cs Δ)
  | _ => .stuck
def callG {α : Type} (g : List Arg → DEnv → FRes → Res α) (mf : DEnv → FRes) (m : DEnv → Res (List Arg)) : DEnv → Res α := fun Δ => (m Δ).bind fun zs Δ1 => match cellsOf Δ1 zs with
  | none => .stuck
  | some cs => if (slotsOf zs).Nodup then g zs Δ1 (mf cs) else .stuck
abbrev callM := callG FRes.toR
abbrev callF := callG FRes.toF
theorem snd_call {ta : TA} {n : Nat} {mf : DEnv → FRes} {m : DEnv → Res (List Arg)} (hn : ∀ zs Δ Δ1, m Δ = .ok zs Δ1 → zs.length = n) (h : SndC L W ta m) : Snd L W (tCallS (spD L n mf) (WE W) ta) (callM mf m) := by
  intro σ Δ F H Q env w
  refine h σ Δ F H _ env ?_
  unfold callM callG at w
  cases q : m Δ with
  | stuck => rw [q] at w; exact w.elim
  | ex x Δ' => rw [q] at w; exact w
  | ok zs Δ1 =>
    rw [q] at w
    intro F1 H1 env1 st1 vs ha
    replace w : Want L W σ Δ F H (match cellsOf Δ1 zs with | none => .stuck | some cs => if (slotsOf zs).Nodup then FRes.toR zs Δ1 (mf cs) else .stuck) _ := w
    refine ⟨by rw [ha.1]; exact hn zs Δ Δ1 q, ?_⟩
    cases qc : cellsOf Δ1 zs with
    | none => rw [qc] at w; exact w.elim
    | some cs =>
      rw [qc] at w
      replace w : Want L W σ Δ F H (if (slotsOf zs).Nodup then FRes.toR zs Δ1 (mf cs) else .stuck) _ := w
      split at w
      case isFalse => exact w.elim
      rename_i nd
      obtain ⟨e1, e2, e3⟩ := env_args env1 nd qc ha
      refine ⟨cs, F1, e1, e2, ?_⟩
      generalize mf cs = r at w ⊢
      cases r with
      | stuck => exact w
      | fr ds cs' => exact w.elim
      | ok d cs' =>
        intro v F' H' env' st' rv
        obtain ⟨b1, b2⟩ := env_back env1 nd qc ha env' st'
        exact w F' H' b1 (st1.trans b2) v rv
      | ex x cs' =>
        intro c dd F' H' env' st' xo
        obtain ⟨b1, b2⟩ := env_back env1 nd qc ha env' st'
        exact w c dd F' H' b1 (st1.trans b2) xo
theorem snd_callF {ta : TA} {n : Nat} {mf : DEnv → FRes} {m : DEnv → Res (List Arg)} (hn : ∀ zs Δ Δ1, m Δ = .ok zs Δ1 → zs.length = n) (h : SndC L W ta m) : SndF L W (tCallS (spD L n mf) (WE W) ta) (callF mf m) := by
  intro σ Δ F H Q env w
  refine h σ Δ F H _ env ?_
  unfold callF callG at w
  cases q : m Δ with
  | stuck => rw [q] at w; exact w.elim
  | ex x Δ' => rw [q] at w; exact w
  | ok zs Δ1 =>
    rw [q] at w
    intro F1 H1 env1 st1 vs ha
    replace w : Want L W σ Δ F H (match cellsOf Δ1 zs with | none => .stuck | some cs => if (slotsOf zs).Nodup then FRes.toF zs Δ1 (mf cs) else .stuck) _ := w
    refine ⟨by rw [ha.1]; exact hn zs Δ Δ1 q, ?_⟩
    cases qc : cellsOf Δ1 zs with
    | none => rw [qc] at w; exact w.elim
    | some cs =>
      rw [qc] at w
      replace w : Want L W σ Δ F H (if (slotsOf zs).Nodup then FRes.toF zs Δ1 (mf cs) else .stuck) _ := w
      split at w
      case isFalse => exact w.elim
      rename_i nd
      obtain ⟨e1, e2, e3⟩ := env_args env1 nd qc ha
      refine ⟨cs, F1, e1, e2, ?_⟩
      generalize mf cs = r at w ⊢
      cases r with
      | stuck => exact w
      | ok d cs' => exact w.elim
      | fr ds cs' =>
        intro p ws F' H' env' st' hp hf hh rs
        obtain ⟨b1, b2⟩ := env_back env1 nd qc ha env' st'
        refine w F' H' b1 (st1.trans b2) p ws (st1.hn hp) (fun z => ?_) hf hh rs
        rcases b2.ow p z with y | y
        · obtain ⟨us, y, _⟩ := env1.own y; rw [hp] at y; cases y
        · obtain ⟨us, y', _⟩ := b1.own z
          obtain ⟨j, c, xs, h1, h2, h3⟩ := z
          exact absurd hp (fun _ => by
            rcases b2.ow p ⟨j, c, xs, h1, h2, h3⟩ with u | u
            · obtain ⟨us', u', _⟩ := env1.own u; rw [hp] at u'; cases u'
            · -- p was nowhere: the slot held its list before, too
              by_cases hj : j ∈ slotsOf zs
              · obtain ⟨k, hk⟩ := mem_slots.mp hj
                have hk' := (List.getElem?_eq_some_iff.mp hk).1
                have hv : k < vs.length := by rw [ha.1]; exact hk'
                have g := ha.2 k _ _ (List.getElem?_eq_getElem hv) hk
                obtain ⟨hl, get⟩ := cellsOf_get qc
                rcases get k _ _ hk (List.getElem?_eq_getElem (by omega)) with ⟨d, q1, _⟩ | ⟨i', xs1, q1, q2, q3⟩
                · cases q1
                · cases q1
                  obtain ⟨a, us2, f1, f2, f3, f4⟩ := env1.getO q3
                  rw [h3] at f1; cases f1
                  rw [hp] at f2; cases f2
              · rw [backD_out hj] at h1
                obtain ⟨us2, f2, _⟩ := env1.own ⟨j, c, xs, h1, h2, h3⟩
                rw [hp] at f2; cases f2)
      | ex x cs' =>
        intro c dd F' H' env' st' xo
        obtain ⟨b1, b2⟩ := env_back env1 nd qc ha env' st'
        exact w c dd F' H' b1 (st1.trans b2) xo
end
end KL
/-! KL, part i: the own error whose __init__ says super().__init__(what) and self.what = what. -/
namespace KL
section
open PySem PySem.W PySem.Calls PyProof.Rows PySem.HandSPX

def xiA (p1 p2 : Pos) : Arguments := ⟨[], [⟨"self", none, p1⟩, ⟨"what", none, p2⟩], none, [], [], none, []⟩
def xiB (a1 a2 a3 a4 a5 a6 b1 b2 b3 b4 : Pos) : List Stmt :=
  [.Expr (.Call (.Attribute (.Call (.Name "super" a1) [] [] a2) "__init__" a3) [.Name "what" a4] [] a5) a6, .Assign [.Attribute (.Name "self" b1) "what" b2] (.Name "what" b3) b4]
def xiS : Scope := ⟨.function, [(Str.ofString "self", .local), (Str.ofString "what", .local), (Str.ofString "__class__", .free), (Str.ofString "super", .globalImplicit)], false, false, []⟩
/-- what the written part says of the class at C, called x, and of its __init__, at fI -/
structure XTxt (prog : Program) (K : Frag) (mg : Str → Option Value) (x : Str) (C fI : Addr) : Prop where
  gC : mg x = some (.ref C)
  cls : ∃ nm q N bs bm sn sub ab col dd k0 k1 k2 k3 k5, K.lookup C = some (excClassObj nm q C N bs bm true sn sub ab col dd k0 k1 k2 k3 k5 "ValueError.__new__") ∧ refsVE bm = true
  xi : excInitIn K C veTail "ValueError.__new__" = true
  sa : findIn K (.ref C) "__setattr__" = some (some (.builtin "object.__setattr__"))
  ga : findIn K (.ref C) "__getattribute__" = some (some (.builtin "BaseException.__getattribute__"))
  gg : findIn K (.ref C) "__getattr__" = some none
  noN : findIn K (.ref C) "what" = some none
  iC : findIn K (.ref C) "__init__" = some (some (.ref fI))
  tC : typeIn K (.ref fI) = some (.type "function")
  kC : keepIn K (.ref C) = true
  exC : subIn K (.ref C) (.type "BaseException") = some true
  exV : subIn K (.ref C) (.type "ValueError") = some true
  slf : mroIn K C (.ref C) = some true
  tyC : typeIn K (.ref C) = some (.type "type")
  hdC : hasDictIn K C = true
  sup : ks_superIn K C C "__init__" = some (some (.builtin "ValueError.__init__"))
  gS : mg "super" = none
  opq : nsIn K cStatics "thirdparty.any" = some none
  top : (prog.main.scope.names.lookup ("super" : Str)).isSome = false
  fn : ∃ (oc : Value) (od : Option Addr) (qual : Str) (doc pm : Value) (an : Option Addr) (ct : Value) (osl : Array (Option Value)) (cda cc : Addr) (p1 p2 a1 a2 a3 a4 a5 a6 b1 b2 b3 b4 : Pos), (a3.endLine == a5.line) = true ∧
    K.lookup fI = some ⟨oc, od, .func (ksFn "__init__" qual (xiA p1 p2) (xiB a1 a2 a3 a4 a5 a6 b1 b2 b3 b4) xiS .none .none doc pm an (.ref cda) ct cc), osl⟩ ∧ codeIn K (.ref cda) qual = true ∧
    (∃ (ccl : Value) (cdd : Option Addr) (vs : Array Value) (ccs : Array (Option Value)) (file : Str) (tf : Tok), K.lookup cda = some ⟨ccl, cdd, .fields vs, ccs⟩ ∧ vs[2]? = some (.str file tf) ∧ ((prog.main.file : Str) == file) = true) ∧
    ∃ (cl : Value) (cld : Option Addr) (csl : Array (Option Value)), K.lookup cc = some ⟨cl, cld, .cell (some (.ref C)), csl⟩
section
variable {prog : Program} {w : World} {A : Around} {E : Value → Shared → Prop} {s : Shared} {h₀ : Heap} {L : Addr} {m mg mb : Str → Option Value} {news : List (Addr × Obj)} {K : Frag} {x C D f cc cda so : Addr} {ox : Obj} {odx : Option Obj}
/-- super(), in a frame that is known -/
theorem sup_node {body : List Stmt} {q : Str} {scope : Scope} {p0 p1 : Pos} {attr : Str} {whole : Sem Value} {fd : FuncData} {ar : PySem.Arg} {vs : Array Value} {file : Str} {tf : Tok} {oc ccl cl : Value} {od cdd cld : Option Addr} {osl ccs csl : Array (Option Value)} {cdD : ClassData} {Q : Value → Shared → Prop}
    (fr : Fr h₀ L s.heap m) (kin : K.In h₀) (nw : News h₀ L s.heap news) (hG : s.heap.Ns mainGlobals mg) (hgs : mg "super" = none) (hB : s.heap.Ns builtinsNs mb) (hbs : mb "super" = some (.type "super"))
    (lf : K.lookup f = some ⟨oc, od, .func fd, osl⟩) (hp : (fd.params.posonlyargs ++ fd.params.args).head? = some ar) (hv : m ar.arg = some (.ref x)) (at_ : InstAt s.heap x ox C odx)
    (lc : K.lookup cda = some ⟨ccl, cdd, .fields vs, ccs⟩) (hvs : vs[2]? = some (.str file tf)) (hfile : ((prog.main.file : Str) == file) = true)
    (ll : K.lookup cc = some ⟨cl, cld, .cell (some (.ref D)), csl⟩) (hD : clsIn K D = some cdD) (hsub : mroIn K C (.ref D) = some true)
    (hat : (attr == ("__class__" : Str)) = false) (hks : scope.names.lookup ("super" : Str) = some .globalImplicit) (hkc : scope.names.lookup ("__class__" : Str) = some .free) (hka : scope.names.lookup ar.arg = some .local) (hk : scope.kind = .function)
    (htop : (prog.main.scope.names.lookup ("super" : Str)).isSome = false)
    (go : ∀ so h', Fr h₀ L h' m → News h₀ L h' ((so, ks_superObj D x C) :: news) → (∀ p ∈ news, p.1 < so) → Q (.ref so) { s with heap := h' }) :
    _root_.PySem.wpAt (model prog w) A (.func body (ksEnv q scope L f (.ref cda) cc)) (attributeBase (.Call (.Name "super" p0) [] [] p1) attr (ksEnv q scope L f (.ref cda) cc) whole) Q E s := by
  have kn : K.In s.heap := kin.keeps fr.keep
  obtain ⟨hp0, g, d, t, os⟩ := s
  obtain ⟨oD, hD1, hD2⟩ : ∃ oD, hp0.get? D = some oD ∧ oD.data = .cls cdD := by
    unfold clsIn at hD
    split at hD
    case h_1 c d cd' sl ho => cases hD; exact ⟨_, kn _ _ ho, rfl⟩
    case h_2 => cases hD
  refine ks_wpAt_super_base (env := ksEnv q scope L f (.ref cda) cc) hks hkc hat rfl (kn _ _ lf) rfl hp rfl (kn _ _ lc) rfl hvs hfile htop (ks_loadName_global hk hks (loadGlobal_builtin (env := ksEnv q scope L f (.ref cda) cc) hG hgs hB hbs ⟨rfl, ?_⟩))
  refine wpAny_loadName_free hk hkc rfl ⟨_, kn _ _ ll, rfl⟩ (wpAny_loadName_local hk hka fr.ns hv (ks_wpAny_isType_cls hD1 hD2 ⟨rfl, ?_⟩))
  refine ks_wpAny_call_super hD1 hD2 at_.at_ at_.cls (fun c e => ?_) (looks_mroIn kn hsub) (fun h' e k => ?_)
  · have no := at_.no
    unfold notCls at no; rw [e] at no; exact Bool.noConfusion no
  · obtain ⟨f1, n1, l1⟩ := ks_newsPush (s := ⟨hp0, g, d, t, os⟩) fr nw rfl e k
    exact go _ _ f1 n1 l1
end
/-- what __init__ leaves of a fresh exception at x -/
structure InitLeft (h h' : Heap) (x C dx t1 : Addr) (v : Value) : Prop where
  keep : ∀ b o, b ≠ x → h.get? b = some o → h'.get? b = some o
  obj : h'.get? x = some (excObj C t1 (some dx) .none)
  dbig : h.objs.size ≤ dx
  dne : dx ≠ x
  ns : h'.Ns1 dx (fun y => if y = "what" then some v else none)
structure ErrMade (h h' : Heap) (e C d : Addr) (v : Value) : Prop where
  keep : ∀ b o, h.get? b = some o → h'.get? b = some o
  new : h.objs.size ≤ e
  obj : ∃ t1, h'.get? e = some (excObj C t1 (some d) .none)
  dbig : h.objs.size ≤ d
  dne : d ≠ e
  ns : h'.Ns1 d (fun y => if y = "what" then some v else none)
section
variable {prog : Program} {w : World} {A : Around} {R : Result → Shared → Prop} {s : Shared} {K : Frag} {mg mb : Str → Option Value} {n : Str} {C fI : Addr}
theorem ldM {M : Model} {E : Value → Shared → Prop} {env : PySem.Env} {m : Str → Option Value} {y : Str} {pos : Pos} {v : Value} {Q : Value → Shared → Prop} (hn : s.heap.Ns env.locals m) (hv : m y = some v) (h : Q v s)
    (hk : env.scope.kind = .function) (hl : env.kindOf y = some .local) (hd : (y == ("__debug__" : Str)) = false) : wpAny M A (eval (.Name y pos) env) Q E s := wpAny_Name (wpAny_loadName_local hk hl hn hv h) hd
theorem sup_eval {a1 a2 a3 a4 a5 : Pos} {env : PySem.Env} (hp : (a3.endLine == a5.line) = true) : ∃ pl : Sem Bool, eval (.Call (.Attribute (.Call (.Name "super" a1) [] [] a2) "__init__" a3) [.Name "what" a4] [] a5) env = (do
    let ov ← attributeBase (.Call (.Name "super" a1) [] [] a2) "__init__" env (eval (.Call (.Name "super" a1) [] [] a2) env)
    standAt a3.atName
    let (f, first) ← holding [ov] (getMethod ov "__init__" pl)
    callWith a5 f first (backTo a5 (starEach [.Name "what" a4] env)) []) := by
  refine ⟨(do return (← importBound (.Call (.Name "super" a1) [] [] a2) env).getD true), (arm_eval_Call _ _ _ _ _ _ _).trans ?_⟩
  have e : ∀ (few : Bool) (o : Expr), methodCallPos few o env a3 a5 = pure a5 := fun few o => by
    unfold methodCallPos
    rw [hp, Bool.or_true]; rfl
  unfold methodCall
  simp only [e, pure_bind]
  rfl
theorem err_init (T : XTxt prog K mg n C fI) {x t0 : Addr} {v : Value} (kin : K.In s.heap) (hlim : s.heap.NoLimit) (hG : s.heap.Ns mainGlobals mg) (hB : s.heap.Ns builtinsNs mb) (hbs : mb "super" = some (.type "super"))
    (hx : s.heap.get? x = some (excObj C t0 none .none)) (hnx : K.lookup x = none) (hroom : A.depth < recursionLimit)
    (hq : ∀ h' tk dx t1, InitLeft s.heap h' x C dx t1 v → R (.ok (.ret .none)) { s with heap := h', toks := tk }) :
    codeAny (model prog w) A (.call (.ref fI) ⟨[.ref x, v], []⟩) R s := by
  obtain ⟨oc, od, qual, doc, pm, an, ct, osl, cda, cc, p1, p2, a1, a2, a3, a4, a5, a6, b1, b2, b3, b4, hpos, lf, hcd, ⟨ccl, cdd, vs, ccs, file, tf, lc, hvs, hfile⟩, cl, cld, csl, ll⟩ := T.fn
  obtain ⟨nm, q, N, bs, bm, sn, sub, ab, col, dd, k0, k1, k2, k3, k5, hC, hbm⟩ := T.cls
  have hcl : clsIn K C = some { name := nm, bases := bs, mro := .ref C :: bm, ns := N, qualname := q, hasDict := true, slotNames := sn, subclasses := sub, abstract := ab, collection := col, hasDel := false } := by unfold clsIn; rw [hC] <;> rfl
  refine ks_codeAny_call_defAt (binds := [("self", .ref x), ("what", v)]) (body := xiB a1 a2 a3 a4 a5 a6 b1 b2 b3 b4) hroom (kin _ _ lf) rfl hlim (codeRec_of kin hcd) rfl (BindsTo.of_eq (by first | rfl | with_unfolding_all rfl)) (by show ∀ y ∈ xiS.names, y.2 ≠ .cell; decide) (by show ∀ y ∈ [(Str.ofString "self", Value.ref x), (Str.ofString "what", v)], xiS.names.lookup y.1 = some .local; exact locs (by first | rfl | decide | decide +kernel)) (fun h1 hns k => ?_) rfl rfl rfl
  -- the ground: all that stood, but the exception itself
  have kinG : K.In (hideAll s.heap [x]) := fun a o e => hideAll_get _ (kin _ _ e) (by
    intro z
    rw [List.mem_singleton] at z
    rw [z, hnx] at e; cases e)
  have fr : Fr (hideAll s.heap [x]) s.heap.objs.size h1 (fun y => [(("self" : Str), Value.ref x), ("what", v)].reverse.lookup y) := ⟨hns, fun b o e => k b o (of_hideAll _ e), Nat.le_of_eq (hideAll_size _ _)⟩
  have hxL : x ≠ s.heap.objs.size := Nat.ne_of_lt (Heap.lt_size hx)
  have nw : News (hideAll s.heap [x]) s.heap.objs.size h1 [(x, excObj C t0 none .none)] := fun p hp => by
    rw [List.mem_singleton] at hp
    subst hp
    exact ⟨k _ _ hx, hxL, hideAll_none _ (List.mem_singleton.mpr rfl)⟩
  have keepG : ∀ {h' : Heap} {mm : Str → Option Value}, Fr (hideAll s.heap [x]) s.heap.objs.size h' mm → ∀ b o, b ≠ x → s.heap.get? b = some o → h'.get? b = some o := fun F b o hb e => F.keep b o (hideAll_get _ e (by rw [List.mem_singleton]; exact hb))
  -- super().__init__(what)
  obtain ⟨pl, he⟩ := sup_eval (a1 := a1) (a2 := a2) (a4 := a4) (env := ksEnv qual xiS s.heap.objs.size fI (.ref cda) cc) hpos
  refine ks_wpAt_execs_cons (ks_wpAt_Expr_any (ks_wpAt_MethodCall ?_ he))
  refine sup_node (K := K) (odx := none) (D := C) (C := C) (scope := xiS) (q := qual) fr kinG nw (hG.keeps k) T.gS (hB.keeps k) hbs lf rfl rfl ⟨k _ _ hx, rfl, rfl, trivial⟩ lc hvs hfile ll hcl T.slf (by decide) rfl rfl rfl rfl T.top fun so h2 fr2 nw2 lt2 => ?_
  have x2 : h2.get? x = some (excObj C t0 none .none) := (nw2 (x, excObj C t0 none .none) (by simp)).1
  refine kxs_method (so := so) (odx := none) kxs_ValueError fr2 kinG nw2 (.head _) ⟨x2, rfl, rfl, trivial⟩ T.opq T.sup T.exV (by decide) fun u h3 fr3 nw3 lt3 => ?_
  refine kxs_callWith1 nw3 (.head _) ?_ rfl rfl
  have hne : so ≠ x := Ne.symm (Nat.ne_of_lt (lt2 (x, excObj C t0 none .none) (by simp)))
  have hnu : u ≠ x := Ne.symm (Nat.ne_of_lt (lt3 (x, excObj C t0 none .none) (by simp)))
  refine PySem.Calls.spliced_cons (ldM fr3.ns (v := v) rfl (PySem.Calls.spliced_nil ⟨?_, ?_⟩) rfl rfl rfl)
  · exact kxs_at nw3 (.head _)
  refine kxs_call fr3 kinG nw3 PySem.F.excBase_ValueError T.xi (.head _) (.tail hnu (.tail hne (.head (by simp)))) (by show 1 ≤ sizeLine; rw [sizeLine_eq]; omega) fun t1 h4 fr4 nw4 lt4 => ?_
  -- self.what = what
  refine wpAt_of_wpAny (wpAny_execs_cons (plainObj_wpAny_Assign_Attribute (ldM fr4.ns rfl (ldM fr4.ns rfl ?_ rfl rfl rfl) rfl rfl rfl)))
  have x4 : h4.get? x = some (excObj C t1 none .none) := (nw4 (x, excObj C t1 none .none) (by simp)).1
  refine set_plain (kinG.keeps fr4.keep) (ox := excObj C t1 none .none) (od := none) ⟨x4, rfl, rfl, trivial⟩ T.sa ?_
  refine exc_osa (kinG.keeps fr4.keep) x4 hcl (show refsVE (.ref C :: bm) = true from hbm) rfl T.noN (fun h5 tk5 dx k5 dn dne x5 n5 => ?_)
  refine wpAny_execs_nil (hq h5 tk5 dx t1 ⟨fun b o hb e => k5 b o hb (keepG fr4 b o hb e), x5, ?_, dne, n5⟩)
  exact Nat.le_of_lt (Nat.lt_of_lt_of_le (fr4.ns.lt) dn)
theorem err_made (T : XTxt prog K mg n C fI) {v : Value} (kin : K.In s.heap) (hlim : s.heap.NoLimit) (hG : s.heap.Ns mainGlobals mg) (hB : s.heap.Ns builtinsNs mb) (hbs : mb "super" = some (.type "super")) (hroom : A.depth + 1 < recursionLimit)
    (hq : ∀ h' tk e d, ErrMade s.heap h' e C d v → R (.ok (.ret (.ref e))) { s with heap := h', toks := tk }) : codeAny (model prog w) A (.call (.ref C) ⟨[v], []⟩) R s := by
  obtain ⟨nm, q, N, bs, bm, sn, sub, ab, col, dd, k0, k1, k2, k3, k5, hC, hbm⟩ := T.cls
  obtain ⟨hp, g, dr, tk, os⟩ := s
  have up : ∀ b o, hp.get? b = some o → ((hp.push (kdv_tup [v])).push (excO C hp.objs.size)).get? b = some o := fun b o e => Heap.get?_push_of_some _ (Heap.get?_push_of_some _ e)
  have hget : ((hp.push (kdv_tup [v])).push (excO C hp.objs.size)).get? (hp.objs.size + 1) = some (excO C hp.objs.size) := by heap_get
  have hnx : K.lookup (hp.objs.size + 1) = none := by
    cases e : K.lookup (hp.objs.size + 1) with
    | none => rfl
    | some o => exact absurd (Nat.lt_of_succ_lt (Heap.lt_size (show hp.get? (hp.objs.size + 1) = some o from kin _ _ e))) (Nat.lt_irrefl _)
  refine call_own F.excBase_ValueError (fun Y => refsVE_contains Y bm hbm) (kin _ _ hC) (looks_findIn kin T.iC) (fun self => bind_fn kin self T.tC) (by show 1 ≤ sizeLine; rw [sizeLine_eq]; omega)
    (err_init (s := ⟨(hp.push (kdv_tup [v])).push (excO C hp.objs.size), g, dr, tk, os⟩) T (kin.keeps up) (hlim.keeps up) (hG.keeps up) (hB.keeps up) hbs hget hnx (by show A.depth + 1 < recursionLimit; exact hroom) fun h' tk' dx t1 M => ?_)
  have old : ∀ b o, hp.get? b = some o → h'.get? b = some o := fun b o e => M.keep b o (Nat.ne_of_lt (Nat.lt_succ_of_lt (Heap.lt_size e))) (up b o e)
  have z : hp.objs.size + 1 + 1 ≤ dx := by
    have q := M.dbig
    rw [Heap.size_push, Heap.size_push] at q; exact q
  exact ⟨rfl, hq h' tk' (hp.objs.size + 1) dx ⟨old, Nat.le_succ _, ⟨t1, M.obj⟩, Nat.le_trans (Nat.le_add_right _ 2) z, M.dne, M.ns⟩⟩
end
end
end KL
/-! KL, part j: raise, try, calls of defs. -/
namespace KL
open PySem L2

/-! ### raise InvalidX(e) -/
theorem relO_what {v : V} {u : Value} (r : RelV v u) (f : Str) : RelO (List.lookup f [(("what" : Str), v)]) (if f = "what" then some u else none) := by
  by_cases h : f = "what"
  · rw [h, if_pos rfl]; exact r
  · have q : (f == ("what" : Str)) = false := by simpa using h
    rw [if_neg h, List.lookup_cons, q]; trivial
def tWhat (C : Addr) (ta : TA) : L2.St → Hp → XK → Prop := fun σ H Q => ta σ H fun vs H1 => ∃ v, vs = [v] ∧ ∀ d, H1 d = none → Q (.ref C) (some d) (upd H1 d (.xd [(("what" : Str), v)]))
section
variable {X : Cx} {L : Lx} {W : WX} {C fI : Addr} {n : Str} {k : Nat} {a : Expr} {p pos pos2 : Pos}
open PyProof.Rows PySem.W in
theorem pmk_what {ta : TA} (T : XTxt X.prog X.K X.mg n C fI) (hr : Room k X.A) (ha : PA X [a] ta) (hg : Gl X n) (hdb : (n == ("__debug__" : Str)) = false)
    (hs : starEach [a] X.env = (false, eval a X.env) :: starEach [] X.env := by rfl) (hpl : (backTo pos (starEach [] X.env)).any (·.1) = false := by rfl) : PMk X (.Call (.Name n p) [a] [] pos) (tWhat C ta) := by
  intro pins s σ H Q I h
  refine wpAny_Call_Name_kw (ld_glob I hg T.gC (callWith_K (h₀ := X.base) I.ok.mod.kin T.kC (thn (ha.run pos pins s σ H _ I h) fun us s1 ⟨vs, H1, I1, r1, v, ev, q1⟩ => ⟨I1.kIn, ?_⟩) hs hpl) hdb)
  subst ev
  cases r1 with
  | cons rv rn =>
    cases rn
    show wpAny _ _ (call (.ref C) [_]) _ _ _
    obtain ⟨mb, bm1, bm2⟩ := I1.mod.blt
    have hlim := I1.nolimit
    obtain ⟨hp, g, dr, tk, os⟩ := s1
    refine wpAny_call (err_made T I1.kIn hlim (I1.mod.glob.keeps I1.bk) (bm1.keeps I1.bk) ((bm2 "super" (by decide)).trans (by first | rfl | kernel_rfl)) (by have := hr.dp; omega) fun h' tk' e d M => ?_)
    obtain ⟨t1, hoe⟩ := M.obj
    obtain ⟨G, g1, g2⟩ := restrict h' fun b => decide (b ≠ e)
    have gk : ∀ b, b ≠ e → G.get? b = h'.get? b := fun b hb => g1 b (decide_eq_true hb)
    have ge : G.get? e = none := g2 e (by simp)
    have ob : ObjOk X.prog X.w (upd H1 d (.xd [(("what" : Str), v)])) G d (.xd [(("what" : Str), v)]) := ⟨_, M.ns.at (fun o q => (gk d M.dne).trans q), fun f => relO_what rv f⟩
    have J : Inv X pins σ (upd H1 d (.xd [(("what" : Str), v)])) ⟨G, g, dr, tk', os⟩ := I1.laid (t' := tk') (fun b o q => (gk b (Nat.ne_of_lt (Nat.lt_of_lt_of_le (Heap.lt_size q) M.new))).trans (M.keep b o q)) M.dbig ob
    refine ⟨e, _, _, ⟨G, g, dr, tk', os⟩, _, .ref C, some d, rfl, J, fun b o q => ?_, ge, hoe, ⟨rfl, rfl⟩, rfl, rfl, ?_, rfl, I1.bare, raises_own T.exC T.tyC, q1 d (I1.hok.fresh M.dbig)⟩
    · by_cases hb : b = e
      · exact absurd (show G.get? b = some o from q) (by rw [hb, ge]; intro z; cases z)
      · exact (gk b hb).symm.trans q
    · rw [upd_ne (Ne.symm M.dne)]; exact I1.hok.fresh M.new
def raiseM (cls f : Str) (m : DEnv → Res D) : DEnv → SRes := fun Δ => (m Δ).s fun d Δ1 => .ex (.mk cls [(f, d)]) Δ1
theorem s_raise {ma : DEnv → Res D} (hc : X.calm = true) (T : XTxt X.prog X.K X.mg n C fI) (hr : Room k X.A) (tk : Takes X W) (hct : L.ct n = some C) (ha : DE X L W a ma) (hg : Gl X n) (hdb : (n == ("__debug__" : Str)) = false := by decide)
    (hs : starEach [a] X.env = (false, eval a X.env) :: starEach [] X.env := by rfl) (hpl : (backTo pos (starEach [] X.env)).any (·.1) = false := by rfl) : DS X L W (.Raise (some (.Call (.Name n p) [a] [] pos)) none pos2) (raiseM n "what" ma) := by
  obtain ⟨te, p1, s1⟩ := ha.ex
  refine ⟨_, ps_raise hc tk (pmk_what T hr (pa_cons p1 pa_nil hs) hg hdb hs hpl), fun σ Δ F H D env w => ?_⟩
  refine s1 σ Δ F H _ env ((Want.ofS w).mono fun d Δ1 F1 H1 env1 w1 v r => ⟨v, rfl, fun dd hd => ?_⟩)
  have g : Gro F1 H1 (upd F1 dd (.xd [(("what" : Str), v)])) (upd H1 dd (.xd [(("what" : Str), v)])) := Gro.new env1.ex hd
  refine w1 σ (.ref C) (some dd) _ _ (env1.gro g) (.gro g) ⟨C, dd, [(("what" : Str), v)], rfl, hct, rfl, upd_same, rfl, fun i a b h1 h2 => ?_, fun i a b h1 h2 => ?_⟩
  · cases i with
    | zero => cases h1; cases h2; rfl
    | succ i => simp at h1
  · cases i with
    | zero => cases h1; cases h2; exact r.mono g.f
    | succ i => simp at h1

/-! ### err.f within an except suite -/
def xfM (i : Nat) (f : Str) : DEnv → Res D := fun Δ => match Δ[i]? with
  | some (.xc (.mk _ fs)) => .opt (fs.lookup f) Δ
  | _ => .stuck
theorem lookup_rep {K : PySem.W.Frag} {F : Hp} {f : Str} {d : D} : ∀ {fvs : List (Str × V)} {fs : List (Str × D)}, fvs.length = fs.length → (∀ (i : Nat) p q, fvs[i]? = some p → fs[i]? = some q → p.1 = q.1) → (∀ (i : Nat) p q, fvs[i]? = some p → fs[i]? = some q → Rep K F p.2 q.2) →
    fs.lookup f = some d → ∃ v, fvs.lookup f = some v ∧ Rep K F v d
  | [], [], _, _, _, h => by cases h
  | p :: fvs, q :: fs, hl, hk, hv, h => by
    have e := hk 0 p q rfl rfl
    rw [List.lookup_cons] at h
    obtain ⟨p1, p2⟩ := p
    obtain ⟨q1, q2⟩ := q
    cases e
    rw [List.lookup_cons]
    cases c : f == p1 with
    | true => rw [c] at h; cases h; exact ⟨p2, rfl, hv 0 _ _ rfl rfl⟩
    | false => rw [c] at h; exact lookup_rep (by simpa using hl) (fun i a b => hk (i + 1) a b) (fun i a b => hv (i + 1) a b) h
theorem d_xf {oe : Obj} {cls : Value} {d : Option Addr} {e : Addr} {pn : List (Addr × Obj)} {y f : Str} {i : Nat} {W : WX} (hgood : ∀ m C, L.ct m = some C → XfC X.K C ∧ PySem.W.findIn X.K (.ref C) f = some none) (hz : Zc cls d oe) (hf : ∃ vs, oe.data = .fields vs)
    (hN : X.N[i]? = some y) (hv : Vis X.env.scope y) (hd : (y == ("__debug__" : Str)) = false := by decide) (hcd : (y == ("__classdict__" : Str)) = false := by decide) (hb : attributeBase (.Name y p) f X.env (eval (.Name y p) X.env) = eval (.Name y p) X.env := by rfl) :
    DE (X.suite e ((e, oe) :: pn)) { L with xa := some (e, cls, d) } W (.Attribute (.Name y p) f pos) (xfM i f) := by
  by_cases hc : ∃ m C, L.ct m = some C ∧ cls = .ref C
  · obtain ⟨m, C, h1, h2⟩ := hc
    obtain ⟨T, hno⟩ := hgood m C h1
    refine ⟨_, pe_xf (C := C) T hno hz hf (pe_var hN hv hd hcd) hb, fun σ Δ F H Q env w => ?_⟩
    unfold xfM at w
    split at w
    case h_2 => exact w.elim
    rename_i c0 fs hi
    obtain ⟨a1, c1, dd1, e1, e2, C1, dx, fvs, e3, e4, e5, e6, e7, e8, e9⟩ := env.cells i _ hi
    cases e1
    cases q : fs.lookup f with
    | none => rw [q] at w; exact w.elim
    | some dv =>
      rw [q] at w
      obtain ⟨v, g1, g2⟩ := lookup_rep e7 e8 e9 q
      exact ⟨_, slot_some e2, rfl, h2, dx, fvs, v, e5, env.ex _ _ e6, g1, w F H env .refl v g2⟩
  · refine ⟨fun _ _ _ => False, ⟨fun pins s σ H Q I h => h.elim⟩, fun σ Δ F H Q env w => ?_⟩
    unfold xfM at w
    split at w
    case h_2 => exact w.elim
    rename_i c0 fs hi
    obtain ⟨a1, c1, dd1, e1, e2, C1, dx, fvs, e3, e4, e5, e6, e7, e8, e9⟩ := env.cells i _ hi
    cases e1
    exact hc ⟨_, _, e4, e3⟩
end

/-! ### try: .. except x as n: .. -/
def noXc (Δ : DEnv) : Bool := Δ.all fun c => match c with | .xc _ => false | _ => true
def SRes.del (i : Nat) : SRes → SRes
  | .nx Δ => if noXc (Δ.set i .no) && canSet Δ i then .nx (Δ.set i .no) else .stuck
  | .bk Δ => if noXc (Δ.set i .no) && canSet Δ i then .bk (Δ.set i .no) else .stuck
  | .ct Δ => if noXc (Δ.set i .no) && canSet Δ i then .ct (Δ.set i .no) else .stuck
  | .rt d Δ => if noXc (Δ.set i .no) && canSet Δ i then .rt d (Δ.set i .no) else .stuck
  | _ => .stuck
def tryM (i : Nat) (hm : Str → Option Bool) (mb ms : DEnv → SRes) : DEnv → SRes := fun Δ => match mb Δ with
  | .ex (.mk n fs) Δ1 => match hm n with
    | some true => if noXc Δ1 && canSet Δ1 i then SRes.del i (ms (Δ1.set i (.xc (.mk n fs)))) else .stuck
    | some false => .ex (.mk n fs) Δ1
    | none => .stuck
  | r => r
section
variable {X : Cx} {L : Lx} {W : WX} {σ σ' : L2.St} {Δ Δ' : DEnv} {F F' H H' : Hp}
theorem EnvOk.xa {ya : Option (Addr × Value × Option Addr)} (env : EnvOk L F σ Δ H) (h : noXc Δ = true) : EnvOk { L with xa := ya } F σ Δ H := by
  refine ⟨env.ex, env.len, fun i c hc => ?_, env.apart⟩
  have k := env.cells i c hc
  cases c with
  | xc x => have := List.all_eq_true.mp h _ (List.mem_of_getElem? hc); cases this
  | _ => exact k
theorem EnvOk.drop {i : Nat} {u : Option V} (env : EnvOk L F σ Δ H) (hi : canSet Δ i = true) : EnvOk L F (σ.set i u) (Δ.set i .no) H := by
  have hs : i < σ.length := by rw [env.len]; exact canSet_lt hi
  have sl : ∀ j, j ≠ i → slot (σ.set i u) j = slot σ j := fun j hj => by unfold slot; rw [List.getElem?_set_ne (Ne.symm hj)]
  refine ⟨env.ex, by rw [List.length_set, List.length_set]; exact env.len, fun j c hj => ?_, fun j k c1 c2 xs ys a hjk hj hk h1 h2 e1 e2 => ?_⟩
  · rcases list_set_get hj with ⟨rfl, rfl⟩ | ⟨nj, hj⟩
    · trivial
    · rw [sl j nj]; exact env.cells j c hj
  · rcases list_set_get hj with ⟨_, rfl⟩ | ⟨nj, gj⟩
    · cases h1
    rcases list_set_get hk with ⟨_, rfl⟩ | ⟨nk, gk⟩
    · cases h2
    rw [sl j nj] at e1
    rw [sl k nk] at e2
    exact env.apart j k c1 c2 xs ys a hjk gj gk h1 h2 e1 e2
theorem Step.drop {σ1 : L2.St} {Δ1 : DEnv} {F1 H1 : Hp} {i : Nat} {u : Option V} (s : Step σ Δ F H σ1 Δ1 F1 H1) (hi : canSet Δ1 i = true) : Step σ Δ F H (σ1.set i u) (Δ1.set i .no) F1 H1 := by
  have sl : ∀ j, j ≠ i → slot (σ1.set i u) j = slot σ1 j := fun j hj => by unfold slot; rw [List.getElem?_set_ne (Ne.symm hj)]
  refine ⟨s.fr, s.kp, s.fn, fun b ⟨j, c', ys, hj, h1, e⟩ => ?_, fun j ys hj => ?_, fun j ys hj => ?_, s.th⟩
  · rcases list_set_get hj with ⟨_, rfl⟩ | ⟨nj, hj⟩
    · cases h1
    · rw [sl j nj] at e; exact s.ow b ⟨j, c', ys, hj, h1, e⟩
  · obtain ⟨xs', e1, e2⟩ := s.pa j ys hj
    have nj : j ≠ i := fun z => by subst z; exact absurd e1 (canSet_pa hi)
    exact ⟨xs', by rw [List.getElem?_set_ne (Ne.symm nj)]; exact e1, by rw [sl j nj]; exact e2⟩
  · rcases list_set_get hj with ⟨_, e⟩ | ⟨nj, hj⟩
    · cases e
    · exact s.pb j ys hj
theorem getSet_slot {i : Nat} {v : V} {σ : L2.St} : (σ.set i v) = (σ.set i v) := rfl
theorem EnvOk.rt {i : Nat} (env : EnvOk L F σ Δ H) (hi : canSet Δ i = true) : EnvOk L F σ (Δ.set i .no) H := by
  have h := env.drop (u := (σ[i]?).join) hi
  have hs : i < σ.length := by rw [env.len]; exact canSet_lt hi
  have e : σ.set i ((σ[i]?).join) = σ := by
    rw [List.getElem?_eq_getElem hs]
    exact List.set_getElem_self hs
  rw [e] at h; exact h
theorem Step.rt {σ1 : L2.St} {Δ1 : DEnv} {F1 H1 : Hp} {i : Nat} (s : Step σ Δ F H σ1 Δ1 F1 H1) (hl : σ1.length = Δ1.length) (hi : canSet Δ1 i = true) : Step σ Δ F H σ1 (Δ1.set i .no) F1 H1 := by
  have h := s.drop (u := (σ1[i]?).join) hi
  have hs : i < σ1.length := by rw [hl]; exact canSet_lt hi
  have e : σ1.set i ((σ1[i]?).join) = σ1 := by
    rw [List.getElem?_eq_getElem hs]
    exact List.set_getElem_self hs
  rw [e] at h; exact h
/-- the weakest reading of a list of statements, in all contexts of a kind -/
def inf {ι : Type} (good : ι → Prop) (Xs : ι → Cx) (sts : List Stmt) : TS := fun D σ H => ∀ i, good i → ∃ t, PSs (Xs i) sts t ∧ t D σ H
theorem inf_pss {ι : Type} {good : ι → Prop} {Xs : ι → Cx} {sts : List Stmt} {i : ι} (h : good i) : PSs (Xs i) sts (inf good Xs sts) := ⟨fun pins s σ H D I w => let ⟨t, p, q⟩ := w i h; p.run pins s σ H D I q⟩
theorem inf_snd {ι : Type} {good : ι → Prop} {Xs : ι → Cx} {sts : List Stmt} {m : DEnv → SRes} (h : ∀ i, good i → DSs (Xs i) L W sts m) : SndS L W (inf good Xs sts) m := fun σ Δ F H D env w i hi => let ⟨t, p, sd⟩ := (h i hi).ex; ⟨t, p, sd σ Δ F H D env w⟩
theorem s_try {x n : Str} {c : Value} {i : Nat} {body suite : List Stmt} {b0 : Stmt} {np pos pos' : Pos} {hm : Str → Option Bool} {mb ms : DEnv → SRes} (hs : X.stack = X.env :: X.outer) (hf : X.env.frame = some X.env.locals) (hN : X.N.Nodup) (hi : X.N[i]? = some n) (hln : X.env.kindOf n = some .local) (hc : Names X x c) (tk : Takes X W)
    (hh : ∀ m b, hm m = some b → ∀ C, L.ct m = some C → PySem.W.exmOne X.K (.ref C) c = some b)
    (hb : ∀ (W' : WX) (pn : List (Addr × Obj)) (xe : Value → Shared → Prop), Takes (X.tr pn xe) W' → PassesOwn (model X.prog X.w) X.A X.env xe → DSs (X.tr pn xe) L W' body mb)
    (hsu : ∀ (a : Addr) (oe : Obj) (cls : Value) (d : Option Addr) (pn : List (Addr × Obj)), Zc cls d oe → (∃ vs, oe.data = .fields vs) → DSs (X.suite a ((a, oe) :: pn)) { L with xa := some (a, cls, d) } (fun _ _ _ _ => False) (b0 :: suite) ms) :
    DS X L W (.Try body [.ExceptHandler (some (.Name x np)) (some n) (b0 :: suite) pos'] [] [] pos) (tryM i hm mb ms) := by
  refine ⟨_, ps_try_as (ts := fun a cls d => inf (ι := Obj × List (Addr × Obj)) (fun z => Zc cls d z.1 ∧ ∃ vs, z.1.data = .fields vs) (fun z => X.suite a ((a, z.1) :: z.2)) (b0 :: suite)) (tb := fun W' => inf (ι := List (Addr × Obj) × (Value → Shared → Prop)) (fun z => Takes (X.tr z.1 z.2) W' ∧ PassesOwn (model X.prog X.w) X.A X.env z.2) (fun z => X.tr z.1 z.2) body)
    hs hf hN hi hln hc tk (fun W' pn xe t1 t2 => inf_pss (Xs := fun z : List (Addr × Obj) × (Value → Shared → Prop) => X.tr z.1 z.2) (i := (pn, xe)) (And.intro t1 t2)) (fun a oe cls d pn hz hf => inf_pss (Xs := fun z : Obj × List (Addr × Obj) => X.suite a ((a, z.1) :: z.2)) (i := (oe, pn)) (And.intro hz hf)), fun σ Δ F H D env w => ?_⟩
  refine inf_snd (L := L) (m := mb) (fun z hz => hb _ z.1 z.2 hz.1 hz.2) σ Δ F H D env ?_
  unfold tryM at w
  generalize mb Δ = r at w ⊢
  cases r with
  | stuck => exact w
  | nx Δ1 => exact w
  | rt d Δ1 => exact w
  | rf d Δ1 => exact w
  | bk Δ1 => exact w
  | ct Δ1 => exact w
  | ex x0 Δ1 =>
    obtain ⟨n0, fs⟩ := x0
    intro σ1 cls dd F1 H1 env1 st1 xo
    have xo' := xo
    obtain ⟨C0, d0, fvs, e1, e2, e3, e4, e5, e6, e7⟩ := xo
    replace w : WantS L W σ Δ F H (match hm n0 with
      | some true => if noXc Δ1 && canSet Δ1 i then SRes.del i (ms (Δ1.set i (.xc (.mk n0 fs)))) else .stuck
      | some false => .ex (.mk n0 fs) Δ1
      | none => .stuck) D := w
    cases q : hm n0 with
    | none => rw [q] at w; exact w.elim
    | some b =>
      have hx := hh n0 b q C0 e2
      rw [← e1] at hx
      cases b with
      | false => rw [q] at w; exact ⟨false, hx, fun z => Bool.noConfusion z, fun _ => w σ1 cls dd F1 H1 env1 st1 xo'⟩
      | true =>
        rw [q] at w
        refine ⟨true, hx, fun _ a ha => ?_, fun z => Bool.noConfusion z⟩
        replace w : WantS L W σ Δ F H (if noXc Δ1 && canSet Δ1 i then SRes.del i (ms (Δ1.set i (.xc (.mk n0 fs)))) else .stuck) D := w
        split at w
        case isFalse => exact w.elim
        rename_i hg
        obtain ⟨g1, g2⟩ := Bool.and_eq_true_iff.mp hg
        have env2 : EnvOk { L with xa := some (a, cls, dd) } F1 (σ1.set i (some (.ref a))) (Δ1.set i (.xc (.mk n0 fs))) H1 := (env1.xa g1).setC g2 ⟨a, cls, dd, rfl, rfl, xo'⟩ fun xs b h => by cases h
        have st2 : Step σ Δ F H (σ1.set i (some (.ref a))) (Δ1.set i (.xc (.mk n0 fs))) F1 H1 := st1.setC env1.len g2 (fun xs h => by cases h) fun xs h => by cases h
        refine inf_snd (L := { L with xa := some (a, cls, dd) }) (m := ms) (fun z hz => hsu a z.1 cls dd z.2 hz.1 hz.2) _ _ F1 H1 _ env2 ?_
        have back : ∀ {σ' : L2.St} {Δ' : DEnv} {F' H' : Hp}, EnvOk { L with xa := some (a, cls, dd) } F' σ' Δ' H' → noXc (Δ'.set i .no) = true → canSet Δ' i = true → EnvOk L F' (σ'.set i none) (Δ'.set i .no) H' ∧ EnvOk L F' σ' (Δ'.set i .no) H' := fun e h1 h2 =>
          ⟨(e.drop h2).xa (ya := L.xa) h1, (e.rt h2).xa (ya := L.xa) h1⟩
        generalize ms (Δ1.set i (.xc (.mk n0 fs))) = r at w ⊢
        cases r with
        | stuck => exact w
        | ex _ _ => exact w.elim
        | rf _ _ => exact w.elim
        | nx Δ' =>
          intro σ' F' H' e t
          replace w : WantS L W σ Δ F H (if noXc (Δ'.set i .no) && canSet Δ' i then SRes.nx (Δ'.set i .no) else .stuck) D := w
          split at w
          · rename_i hz; obtain ⟨z1, z2⟩ := Bool.and_eq_true_iff.mp hz
            exact w _ F' H' (back e z1 z2).1 ((st2.trans t).drop z2)
          · exact w.elim
        | bk Δ' =>
          intro σ' F' H' e t
          replace w : WantS L W σ Δ F H (if noXc (Δ'.set i .no) && canSet Δ' i then SRes.bk (Δ'.set i .no) else .stuck) D := w
          split at w
          · rename_i hz; obtain ⟨z1, z2⟩ := Bool.and_eq_true_iff.mp hz
            exact w _ F' H' (back e z1 z2).1 ((st2.trans t).drop z2)
          · exact w.elim
        | ct Δ' =>
          intro σ' F' H' e t
          replace w : WantS L W σ Δ F H (if noXc (Δ'.set i .no) && canSet Δ' i then SRes.ct (Δ'.set i .no) else .stuck) D := w
          split at w
          · rename_i hz; obtain ⟨z1, z2⟩ := Bool.and_eq_true_iff.mp hz
            exact w _ F' H' (back e z1 z2).1 ((st2.trans t).drop z2)
          · exact w.elim
        | rt d Δ' =>
          intro σ' v F' H' e t r
          replace w : WantS L W σ Δ F H (if noXc (Δ'.set i .no) && canSet Δ' i then SRes.rt d (Δ'.set i .no) else .stuck) D := w
          split at w
          · rename_i hz; obtain ⟨z1, z2⟩ := Bool.and_eq_true_iff.mp hz
            exact w _ v F' H' (back e z1 z2).2 ((st2.trans t).rt e.len z2) r
          · exact w.elim
end

/-! ### calls of defs -/
section
variable {X : Cx} {L : Lx} {W : WX} {k : Nat} {f : Addr} {fd : FuncData} {ps : List Str} {mf : DEnv → FRes} {x : Str} {p pos : Pos} {e : Expr} {es : List Expr} {m : DEnv → Res (List Arg)}
theorem d_call (Fn : FnOk X.prog X.w X.K X.mg X.base (L2.CX X.prog X.w) k f fd ps (spD L ps.length mf)) (hr : Room k X.A) (hg : Gl X x) (hm : X.mg x = some (.ref f)) (hk : PySem.W.keepIn X.K (.ref f) = true) (hb : Binds X.K fd ps []) (tk : Takes X W) (ha : DC X L W (e :: es) m)
    (hl : (e :: es).length = ps.length := by rfl) (hdb : (x == ("__debug__" : Str)) = false := by decide) (he : starEach (e :: es) X.env = (false, eval e X.env) :: starEach es X.env := by rfl) (hpl : (backTo pos (starEach es X.env)).any (·.1) = false := by rfl) :
    DE X L W (.Call (.Name x p) (e :: es) [] pos) (callM mf m) := by
  obtain ⟨ta, p1, s1⟩ := ha.ex
  exact ⟨_, pe_callS Fn hr hg hm hk hb (fun σ => passAt tk σ) p1 hdb he hpl, snd_call (fun zs Δ Δ1 h => (ha.ln Δ zs Δ1 h).trans hl) s1⟩
theorem d_callF (Fn : FnOk X.prog X.w X.K X.mg X.base (L2.CX X.prog X.w) k f fd ps (spD L ps.length mf)) (hr : Room k X.A) (hg : Gl X x) (hm : X.mg x = some (.ref f)) (hk : PySem.W.keepIn X.K (.ref f) = true) (hb : Binds X.K fd ps []) (tk : Takes X W) (ha : DC X L W (e :: es) m)
    (hl : (e :: es).length = ps.length := by rfl) (hdb : (x == ("__debug__" : Str)) = false := by decide) (he : starEach (e :: es) X.env = (false, eval e X.env) :: starEach es X.env := by rfl) (hpl : (backTo pos (starEach es X.env)).any (·.1) = false := by rfl) :
    DF X L W (.Call (.Name x p) (e :: es) [] pos) (callF mf m) := by
  obtain ⟨ta, p1, s1⟩ := ha.ex
  exact ⟨_, pe_callS Fn hr hg hm hk hb (fun σ => passAt tk σ) p1 hdb he hpl, snd_callF (fun zs Δ Δ1 h => (ha.ln Δ zs Δ1 h).trans hl) s1⟩
/-- a def that takes nothing -/
theorem d_call0 (Fn : FnOk X.prog X.w X.K X.mg X.base (L2.CX X.prog X.w) k f fd ps (spD L ps.length mf)) (hr : Room k X.A) (hg : Gl X x) (hm : X.mg x = some (.ref f)) (hk : PySem.W.keepIn X.K (.ref f) = true) (hb : Binds X.K fd ps []) (tk : Takes X W)
    (hl : 0 = ps.length := by rfl) (hdb : (x == ("__debug__" : Str)) = false := by decide) : DE X L W (.Call (.Name x p) [] [] pos) (callM mf fun Δ => .ok [] Δ) :=
  ⟨tCallS (spD L ps.length mf) (WE W) tNil, ⟨fun pins s σ H Q I h => wpAny_Call_Name_kw (ld_glob I hg hm (PySem.W.callWith_K0 I.kIn hk (run_fnS (us := []) Fn hr hb (passAt tk σ) I .nil h)) hdb)⟩,
    snd_call (fun zs Δ Δ1 h => by cases h; exact hl) fun σ Δ F H Q env w => w F H env .refl [] ⟨rfl, fun k v z h => by simp at h⟩⟩
end
end KL
/-! KL, part k: further operations. -/
namespace KL
open PySem L2
section
variable {X : Cx} {L : Lx} {W : WX} {σ : L2.St} {Δ : DEnv} {F H : Hp} {e a b c : Expr} {es : List Expr} {me ma mb mc : DEnv → Res D} {p pos : Pos} {x : Str}
/-! ### -e -/
def negM (m : DEnv → Res D) : DEnv → Res D := fun Δ => (m Δ).bind fun d Δ1 => match d with
  | .int i => .ok (.int (-i)) Δ1
  | _ => .stuck
theorem d_neg (h : DE X L W e me) : DE X L W (.UnaryOp .USub e pos) (negM me) := by
  obtain ⟨te, p1, s1⟩ := h.ex
  refine ⟨_, pe_un un_neg p1, fun σ Δ F H Q env w => s1 σ Δ F H _ env (w.bind.mono fun d Δ1 F1 H1 env1 w1 v r => ?_)⟩
  cases d with
  | int i => cases r; exact ⟨i, rfl, w1 F1 H1 env1 .refl _ (.int _)⟩
  | _ => exact w1.elim
/-! ### range(a, b, c) -/
def rangeC (lo c : Int) (n : Nat) : List D := (List.range n).map fun i => .int (lo + (i : Nat) * c)
theorem itok_rangeC {lo c : Int} {n : Nat} : ItOk L F (Itc lo c n) (rangeC lo c n) := by
  intro i F' H' e1 e2
  refine ⟨fun d hd => ?_, fun hl => ?_⟩
  · unfold rangeC at hd
    rw [List.getElem?_map] at hd
    cases q : (List.range n)[i]? with
    | none => rw [q] at hd; cases hd
    | some j =>
      rw [q] at hd
      cases hd
      have hi : i < n := by have := (List.getElem?_eq_some_iff.mp q).1; simpa using this
      have hj : j = i := by rw [List.getElem?_range hi] at q; cases q; rfl
      subst hj
      refine ⟨hi, fun x H'' y => ?_⟩
      obtain ⟨rfl, rfl⟩ := y
      exact ⟨F', .refl e2, .int _⟩
  · have : (rangeC lo c n).length = n := by simp [rangeC]
    show n ≤ i
    omega
def range3M (ma mb mc : DEnv → Res D) : DEnv → Res (List D) := fun Δ => (ma Δ).bind fun d Δ1 => (mb Δ1).bind fun d2 Δ2 => (mc Δ2).bind fun d3 Δ3 => match d, d2, d3 with
  | .int i, .int j, .int k => gd (decide (k ≠ 0 ∧ k.natAbs < 1073741824 ∧ Builtin.Range.small i j k = true ∧ 0 ≤ Builtin.Range.rangeSize i j k)) (.ok (rangeC i k (Builtin.Range.rangeSize i j k).toNat) Δ3)
  | _, _, _ => .stuck
theorem i_range3 {tg : Expr} (hg : Gl X "range") (hm : X.mg "range" = none) (h : DE X L W a ma) (h2 : DE X L W b mb) (h3 : DE X L W c mc)
    (hs : starEach [a, b, c] X.env = (false, eval a X.env) :: starEach [b, c] X.env := by rfl) (hs2 : starEach [b, c] X.env = (false, eval b X.env) :: starEach [c] X.env := by rfl) (hs3 : starEach [c] X.env = (false, eval c X.env) :: starEach [] X.env := by rfl)
    (hpl : (backTo pos (starEach [b, c] X.env)).any (·.1) = false := by rfl) : DI X L W tg (.Call (.Name "range" p) [a, b, c] [] pos) (range3M ma mb mc) := by
  obtain ⟨ta, p1, s1⟩ := h.ex
  obtain ⟨tb, p2, s2⟩ := h2.ex
  obtain ⟨tc, p3, s3⟩ := h3.ex
  refine ⟨_, pi_range3 hg hm (pa_cons p1 (pa_cons p2 (pa_cons p3 pa_nil hs3) hs2) hs) hs hpl, fun σ Δ F H R env w => ?_⟩
  refine s1 σ Δ F H _ env (w.bind.mono fun d Δ1 F1 H1 env1 w1 v r => ?_)
  refine s2 σ Δ1 F1 H1 _ env1 (w1.bind.mono fun d2 Δ2 F2 H2 env2 w2 v2 r2 => ?_)
  refine s3 σ Δ2 F2 H2 _ env2 (w2.bind.mono fun d3 Δ3 F3 H3 env3 w3 v3 r3 => ?_)
  cases d with
  | int i =>
    cases d2 with
    | int j =>
      cases d3 with
      | int k =>
        cases r; cases r2; cases r3
        replace w3 : Want L W σ Δ3 F3 H3 (gd (decide (k ≠ 0 ∧ k.natAbs < 1073741824 ∧ Builtin.Range.small i j k = true ∧ 0 ≤ Builtin.Range.rangeSize i j k)) (.ok (rangeC i k (Builtin.Range.rangeSize i j k).toNat) Δ3)) _ := w3
        unfold gd at w3
        split at w3
        · rename_i hb
          obtain ⟨b1, b2, b3, b4⟩ := of_decide_eq_true hb
          exact ⟨i, j, k, _, rfl, ⟨b1, b2, b3, by omega⟩, w3 F3 H3 env3 .refl _ itok_rangeC⟩
        · exact w3.elim
      | _ => exact w3.elim
    | _ => exact w3.elim
  | _ => exact w3.elim

/-! ### methods of a text with one argument -/
def sm1M (g : Str → D → Option D) (mo me : DEnv → Res D) : DEnv → Res D := fun Δ => (mo Δ).bind fun d Δ1 => match d with
  | .str z => (me Δ1).bind fun y Δ2 => .opt (g z y) Δ2
  | _ => .stuck
/-- the method's rule gives what g says -/
def SM1 (L : Lx) (r : V → List V → Hp → VK → Prop) (g : Str → D → Option D) : Prop := ∀ (F H : Hp) (z : Str) (y : V) (dy d : D) (Q : VK), Ex F H → g z dy = some d → RepR L F H y dy → (∀ v F' H', Gro F H F' H' → Rep L.K F' v d → Q v H') → r (.str z) [y] H Q
theorem d_sm1 {o : Expr} {mo : DEnv → Res D} {id : String} {name : Str} {apos : Pos} {r : V → List V → Hp → VK → Prop} {g : Str → D → Option D} (slot : Slot "str" name id) (ty : typeOf (.builtin id) = pure (.type "method_descriptor")) (rule : MtR X id r) (hg : SM1 L r g)
    (ho : DE X L W o mo) (h : DR X L W e me) (hs : starEach [e] X.env = [(false, eval e X.env)] := by rfl) (hbase : attributeBase o name X.env (eval o X.env) = eval o X.env := by rfl) (hline : (apos.endLine == pos.line) = true := by rfl) :
    DE X L W (.Call (.Attribute o name apos) [e] [] pos) (sm1M g mo me) := by
  obtain ⟨to, p1, s1⟩ := ho.ex
  obtain ⟨te, p2, s2⟩ := h.ex
  refine ⟨_, pe_m1 slot ty rule p1 p2 hs hbase hline, fun σ Δ F H Q env w => ?_⟩
  refine s1 σ Δ F H _ env (w.bind.mono fun d Δ1 F1 H1 env1 w1 v rv => ?_)
  cases d with
  | str z =>
    cases rv
    refine ⟨⟨z, rfl⟩, s2 σ Δ1 F1 H1 _ env1 ?_⟩
    have w2 : Want L W σ Δ1 F1 H1 ((me Δ1).bind fun y Δ2 => .opt (g z y) Δ2) _ := w1
    refine w2.bind.mono fun y Δ2 F2 H2 env2 w3 u ru => ?_
    cases q : g z y with
    | none => rw [q] at w3; exact w3.elim
    | some d => rw [q] at w3; exact hg F2 H2 z u y d Q env2.ex q ru fun v F' H' gr rv => w3 F' H' (env2.gro gr) (.gro gr) v rv
  | _ => exact w1.elim
/-- s.index(t) -/
def sindexD : Str → D → Option D := fun z y => match y with
  | .str t => match Builtin.Str.occurrences z t 0 z.length 1 with
    | i :: _ => some (.int (i : Nat))
    | [] => none
  | _ => none
theorem sm_index : SM1 L (fun x xs H Q => ∃ a b i rest, x = .str a ∧ xs = [.str b] ∧ Builtin.Str.occurrences a b 0 a.length 1 = i :: rest ∧ Q (.int (i : Nat)) H) sindexD := by
  intro F H z y dy d Q ex hf ry q
  unfold sindexD at hf
  split at hf
  · split at hf
    · rename_i i rest ho
      cases hf
      exact ⟨z, _, i, rest, rfl, by rw [ry.str], ho, q _ F H (.refl ex) (.int _)⟩
    · cases hf
  · cases hf

/-! ### t.index(x), t a tuple of texts of the module -/
def tupIdxM (ys : List Str) (m : DEnv → Res D) : DEnv → Res D := fun Δ => (m Δ).bind fun d Δ1 => match d with
  | .str z => match ys.findIdx? (· == z) with
    | some j => .ok (.int (j : Nat)) Δ1
    | none => .stuck
  | _ => .stuck
theorem d_tupIdx {y n : Str} {apos : Pos} {t : Addr} {o : Obj} {ys : List Str} (hnm : n = "index") (hg : Gl X y) (hm : X.mg y = some (.ref t)) (hd : (y == ("__debug__" : Str)) = false) (hk : X.K.lookup t = some o) (hc : o.cls = .type "tuple") (hdi : o.dict = none) (ht : ∀ H, SqT X.K H t (ys.map V.str)) (h : DE X L W e me)
    (hbase : attributeBase (.Name y p) n X.env (eval (.Name y p) X.env) = eval (.Name y p) X.env := by rfl)
    (hfew : ((backTo pos (starEach (e :: []) X.env)).all (fun x => !x.1) && (backToKw pos (keywordEach [] X.env)).all (fun x => x.1.isSome) && decide ((e :: []).length + ([] : List Keyword).length + (if ([] : List Keyword).isEmpty then 0 else 1) < 30)) = true := by rfl)
    (hline : (apos.endLine == pos.line) = true := by rfl) (hs : starEach (e :: []) X.env = (false, eval e X.env) :: starEach [] X.env := by rfl) (hplain : (backTo pos (starEach [] X.env)).any (·.1) = false := by rfl) :
    DE X L W (.Call (.Attribute (.Name y p) n apos) [e] [] pos) (tupIdxM ys me) := by
  subst hnm
  obtain ⟨te, p1, s1⟩ := h.ex
  refine ⟨_, pe_bm PySem.F.plainAttrs_tuple PySem.F.slot_tuple_index PySem.F.type_tuple_index mt_tup_index (pe_glob (v := .ref t) hg hm rfl hd) (pa_cons p1 pa_nil hs) hbase hfew hline hs hplain, fun σ Δ F H Q env w => ?_⟩
  refine ⟨.inr (.inl ⟨rfl, o, hk, hc, hdi⟩), s1 σ Δ F H _ env (w.bind.mono fun d Δ1 F1 H1 env1 w1 v rv => ?_)⟩
  cases d with
  | str z =>
    cases rv
    replace w1 : Want L W σ Δ1 F1 H1 (match ys.findIdx? (· == z) with | some j => Res.ok (D.int (j : Nat)) Δ1 | none => Res.stuck) _ := w1
    cases q : ys.findIdx? (· == z) with
    | none => rw [q] at w1; exact w1.elim
    | some j =>
      rw [q] at w1
      obtain ⟨hj, h1, h2⟩ := List.findIdx?_eq_some_iff_getElem.mp q
      refine ⟨t, ys, z, j, rfl, rfl, ht H1, by rw [List.getElem?_eq_getElem hj]; simpa using h1, fun m hm he => ?_, w1 F1 H1 env1 .refl _ (.int _)⟩
      have hml : m < ys.length := by omega
      have := h2 m hm
      rw [List.getElem?_eq_getElem hml] at he
      cases he
      simp at this
  | _ => exact w1.elim

/-! ### order of data -/
def notNone : PyData → Bool
  | .none => false
  | _ => true
def ordB (f : PyData → PyData → Bool) (x y : D) : Option D := match toPy x, toPy y with
  | some p, some q => if PySem.W.alike p q = true ∧ SeqAt.shaped p = true ∧ notNone p = true then some (.bl (f p q)) else none
  | _, _ => none
def rOrd (K : PySem.W.Frag) (f : PyData → PyData → Bool) : R2 := fun x y H Q => ∃ p q, Dp K H x p ∧ Dp K H y q ∧ PySem.W.alike p q = true ∧ SeqAt.shaped p = true ∧ p ≠ .none ∧ Q (.bl (f p q)) H
theorem ordB_ok {f : PyData → PyData → Bool} {u v : V} {x y d : D} {Q : VK} (ex : Ex F H) (hf : ordB f x y = some d) (rx : RepR L F H u x) (ry : RepR L F H v y) (q : ∀ v F' H', Gro F H F' H' → Rep L.K F' v d → Q v H') : rOrd L.K f u v H Q := by
  unfold ordB at hf
  split at hf
  · rename_i p r e1 e2
    split at hf
    · rename_i hc
      cases hf
      exact ⟨p, r, toPy_dpR ex rx e1, toPy_dpR ex ry e2, hc.1, hc.2.1, fun z => by subst z; exact absurd hc.2.2 (by decide), q _ F H (.refl ex) (.bl _)⟩
    · cases hf
  · cases hf
open PySem.W in
theorem op_ltO (hu : X.A.units + 64 < cLine) : OpR X (compareOp .Lt) (rOrd X.K dataLt) := by
  intro pins s σ H x y v u Q I rx ry h
  obtain ⟨p, r, hp, hr, ha, hs, hn, q⟩ := h
  obtain ⟨as, r1⟩ := Dp.reads I p x v hp rx
  obtain ⟨bs, r2⟩ := Dp.reads I r y u hr ry
  exact rcLt_alike p r X.A s v u as bs r1 r2 ha hn (SeqAt.room_of_shaped hs hu) _ _ _ _ ⟨.bl _, H, I, rfl, q⟩
open PySem.W in
theorem op_leO (hu : X.A.units + 64 < cLine) : OpR X (compareOp .LtE) (rOrd X.K fun p r => !dataLt r p) := by
  intro pins s σ H x y v u Q I rx ry h
  obtain ⟨p, r, hp, hr, ha, hs, hn, q⟩ := h
  obtain ⟨as, r1⟩ := Dp.reads I p x v hp rx
  obtain ⟨bs, r2⟩ := Dp.reads I r y u hr ry
  exact rcLe_alike p r X.A s v u as bs r1 r2 ha hn (SeqAt.room_of_shaped hs hu) _ _ _ _ ⟨.bl _, H, I, rfl, q⟩
open PySem.W in
theorem op_gtO (hu : X.A.units + 64 < cLine) : OpR X (compareOp .Gt) (rOrd X.K fun p r => dataLt r p) := by
  intro pins s σ H x y v u Q I rx ry h
  obtain ⟨p, r, hp, hr, ha, hs, hn, q⟩ := h
  obtain ⟨as, r1⟩ := Dp.reads I p x v hp rx
  obtain ⟨bs, r2⟩ := Dp.reads I r y u hr ry
  exact rcGt_alike p r X.A s v u as bs r1 r2 ha hn (SeqAt.room_of_shaped hs hu) _ _ _ _ ⟨.bl _, H, I, rfl, q⟩
open PySem.W in
theorem op_geO (hu : X.A.units + 64 < cLine) : OpR X (compareOp .GtE) (rOrd X.K fun p r => !dataLt p r) := by
  intro pins s σ H x y v u Q I rx ry h
  obtain ⟨p, r, hp, hr, ha, hs, hn, q⟩ := h
  obtain ⟨as, r1⟩ := Dp.reads I p x v hp rx
  obtain ⟨bs, r2⟩ := Dp.reads I r y u hr ry
  exact rcGe_alike p r X.A s v u as bs r1 r2 ha hn (SeqAt.room_of_shaped hs hu) _ _ _ _ ⟨.bl _, H, I, rfl, q⟩
/-- ints at once, the rest as data -/
def ordG (g : Int → Int → Bool) (f : PyData → PyData → Bool) : D → D → Option D
  | .int i, .int j => some (.bl (g i j))
  | x, y => ordB f x y
def rOrdG (K : PySem.W.Frag) (g : Int → Int → Bool) (f : PyData → PyData → Bool) : R2 := fun x y H Q => rI0 (fun i j => .bl (g i j)) x y H Q ∨ rOrd K f x y H Q
theorem ops_ordG {g : Int → Int → Bool} {f : PyData → PyData → Bool} : OpS L (rOrdG L.K g f) (ordG g f) := by
  intro F H u v x y d Q ex hf rx ry q
  unfold ordG at hf
  split at hf
  · cases hf; exact .inl ⟨_, _, rx.int, ry.int, q _ F H (.refl ex) (.bl _)⟩
  · exact .inr (ordB_ok ex hf rx ry q)
abbrev ltG : D → D → Option D := ordG (fun i j => decide (i < j)) PySem.W.dataLt
abbrev leG : D → D → Option D := ordG (fun i j => decide (i ≤ j)) fun p r => !PySem.W.dataLt r p
abbrev gtG : D → D → Option D := ordG (fun i j => decide (j < i)) fun p r => PySem.W.dataLt r p
abbrev geG : D → D → Option D := ordG (fun i j => decide (j ≤ i)) fun p r => !PySem.W.dataLt p r
theorem op_ltG (hu : X.A.units + 64 < cLine) : OpR X (compareOp .Lt) (rOrdG X.K (fun i j => decide (i < j)) PySem.W.dataLt) := opr_or op_lt (op_ltO hu)
theorem op_leG (hu : X.A.units + 64 < cLine) : OpR X (compareOp .LtE) (rOrdG X.K (fun i j => decide (i ≤ j)) fun p r => !PySem.W.dataLt r p) := opr_or op_le (op_leO hu)
theorem op_gtG (hu : X.A.units + 64 < cLine) : OpR X (compareOp .Gt) (rOrdG X.K (fun i j => decide (j < i)) fun p r => PySem.W.dataLt r p) := opr_or op_gt (op_gtO hu)
theorem op_geG (hu : X.A.units + 64 < cLine) : OpR X (compareOp .GtE) (rOrdG X.K (fun i j => decide (j ≤ i)) fun p r => !PySem.W.dataLt p r) := opr_or op_ge (op_geO hu)
end
end KL
/-! KL, part l: defs as they are called; the frame of a whole proof. -/
namespace KL
open PySem L2

/-! ### the readings' words -/
abbrev cst {α : Type} (a : α) : DEnv → Res α := fun Δ => .ok a Δ
def lstE (m : DEnv → Res (List D)) : DEnv → Res D := fun Δ => (m Δ).map .lst
def sq (a b : DEnv → SRes) : DEnv → SRes := fun Δ => (a Δ).seq b
def exprS (m : DEnv → Res D) : DEnv → SRes := fun Δ => (m Δ).s fun _ Δ1 => .nx Δ1
def retS (m : DEnv → Res D) : DEnv → SRes := fun Δ => (m Δ).s .rt
def retFS (m : DEnv → Res (List D)) : DEnv → SRes := fun Δ => (m Δ).s .rf
def setS (i : Nat) (m : DEnv → Res D) : DEnv → SRes := fun Δ => (m Δ).s fun d Δ1 => setM i d Δ1
def setOS (i : Nat) (m : DEnv → Res (List D)) : DEnv → SRes := fun Δ => (m Δ).s fun d Δ1 => setO i d Δ1
def ifS (t : DEnv → Res Bool) (a b : DEnv → SRes) : DEnv → SRes := fun Δ => (t Δ).s fun k Δ1 => if k = true then a Δ1 else b Δ1
def forS (i : DEnv → Res (List D)) (g : D → DEnv → Option DEnv) (b : DEnv → SRes) : DEnv → SRes := fun Δ => (i Δ).s (forM g b)
/-- the def f, with the text st -/
def Dn (K : PySem.W.Frag) (x : Str) (st : Stmt) (f : Addr) (ps : List Str) : Prop := ∃ fd, Fun K x x st f fd ∧ Binds K fd ps []
/-- what a caller needs -/
structure Cal (P : Program) (w : World) (K : PySem.W.Frag) (mg : Str → Option Value) (base : Heap) (L : Lx) (f : Addr) (k : Nat) (ps : List Str) (mf : DEnv → FRes) : Prop where
  ex : ∃ fd, Binds K fd ps [] ∧ FnOk P w K mg base (L2.CX P w) k f fd ps (spD L ps.length mf)
  kp : PySem.W.keepIn K (.ref f) = true
section
variable {P : Program} {w : World} {K : PySem.W.Frag} {mg : Str → Option Value} {base : Heap} {L : Lx}
theorem cal_body {x : Str} {st : Stmt} {f : Addr} {N ps : List Str} {k : Nat} {ms : DEnv → SRes} (D : Dn K x st f ps) (S : FnScope N ps (defScope st))
    (hb : ∀ (cdv : Value) (A : Around) (outer : List PySem.Env) (s : Shared) (H : Hp) (E : XK), Room k (A.deeper (PyProof.Rows.envOfC x (defScope st) s.heap.objs.size f cdv)) →
      Takes (cxOf (L2.CX P w) P w K mg base N x (defScope st) f cdv A outer s H E) (fun cls d _ H => E cls d H) →
      DSs (cxOf (L2.CX P w) P w K mg base N x (defScope st) f cdv A outer s H E) L (fun cls d _ H => E cls d H) (defBody st) ms) :
    Cal P w K mg base L f (k + 1) ps (bodyF ps.length N.length ms) := by
  obtain ⟨fd, F, b⟩ := D
  exact ⟨⟨fd, b, fn_body F S hb⟩, F.kp⟩
theorem Cal.up {f : Addr} {j k : Nat} {ps : List Str} {mf : DEnv → FRes} (c : Cal P w K mg base L f j ps mf) (h : j ≤ k) : Cal P w K mg base L f k ps mf := let ⟨fd, b, F⟩ := c.ex; ⟨⟨fd, b, F.mono h⟩, c.kp⟩
theorem hu64 {k : Nat} {A : Around} (r : Room k A) : A.units + 64 < cLine := by
  have := r.un
  omega
end
section
variable {X : Cx} {L : Lx} {W : WX} {k j : Nat} {f : Addr} {ps : List Str} {mf : DEnv → FRes} {x : Str} {p pos : Pos} {e : Expr} {es : List Expr} {m : DEnv → Res (List Arg)}
theorem d_callC (C : Cal X.prog X.w X.K X.mg X.base L f j ps mf) (hr : Room k X.A) (hj : j ≤ k) (hg : Gl X x) (hm : X.mg x = some (.ref f)) (tk : Takes X W) (ha : DC X L W (e :: es) m)
    (hl : (e :: es).length = ps.length) (hdb : (x == ("__debug__" : Str)) = false) (he : starEach (e :: es) X.env = (false, eval e X.env) :: starEach es X.env) (hpl : (backTo pos (starEach es X.env)).any (·.1) = false) :
    DE X L W (.Call (.Name x p) (e :: es) [] pos) (callM mf m) := by
  obtain ⟨fd, b, F⟩ := C.ex
  exact d_call F (hr.mono hj) hg hm C.kp b tk ha hl hdb he hpl
theorem d_callCF (C : Cal X.prog X.w X.K X.mg X.base L f j ps mf) (hr : Room k X.A) (hj : j ≤ k) (hg : Gl X x) (hm : X.mg x = some (.ref f)) (tk : Takes X W) (ha : DC X L W (e :: es) m)
    (hl : (e :: es).length = ps.length) (hdb : (x == ("__debug__" : Str)) = false) (he : starEach (e :: es) X.env = (false, eval e X.env) :: starEach es X.env) (hpl : (backTo pos (starEach es X.env)).any (·.1) = false) :
    DF X L W (.Call (.Name x p) (e :: es) [] pos) (callF mf m) := by
  obtain ⟨fd, b, F⟩ := C.ex
  exact d_callF F (hr.mono hj) hg hm C.kp b tk ha hl hdb he hpl
/-- a list and a list -/
theorem f_bin {op : Operator} {r : R2} {g : D → D → Option (List D)} {a b : Expr} {ma mb : DEnv → Res D} (ho : OpR X (binaryOp op) r) (hf : OpF L r g) (ha : DE X L W a ma) (hb : DR X L W b mb) : DF X L W (.BinOp a op b pos) (opM g ma mb) :=
  let ⟨_, p1, s1⟩ := ha.ex
  let ⟨_, p2, s2⟩ := hb.ex
  ⟨_, pe_op ho p1 p2, sndF_op hf s1 s2⟩
theorem f_binV {op : Operator} {r : R2} {g : D → D → Option (List D)} {b : Expr} {mb : DEnv → Res D} {i : Nat} (ho : OpR X (binaryOp op) r) (hf : OpF L r g) (hN : X.N[i]? = some x) (hv : Vis X.env.scope x) (hd : (x == ("__debug__" : Str)) = false) (hcd : (x == ("__classdict__" : Str)) = false) (hb : DR X L W b mb) : DF X L W (.BinOp (.Name x p) op b pos) (opV g i mb) :=
  let ⟨_, p2, s2⟩ := hb.ex
  ⟨_, pe_op ho (pe_var hN hv hd hcd) p2, sndF_opV hf s2⟩
end
/-! ### the end -/
def initOf : Stmt → Stmt
  | .ClassDef _ _ _ b _ _ _ _ _ _ _ => b.getD 0 (.Pass ⟨0, 0, 0, 0⟩)
  | s => s
open PySem.W in
theorem exm_of {K : Frag} {S B : Addr} (h1 : subIn K (.ref S) (.type "BaseException") = some true) (h1' : subIn K (.ref B) (.type "BaseException") = some true) (h2 : isClsIn K B = true) (h3 : typeIn K (.ref B) = some (.type "type")) {b : Bool} (h4 : subIn K (.ref S) (.ref B) = some b) : exmOne K (.ref S) (.ref B) = some b := by
  have e1 : (subIn K (.ref B) (.type "BaseException") == some true) = true := by rw [h1'] <;> rfl
  have e2 : ((clsIn K B).isSome && typeIn K (.ref B) == some (.type "type")) = true := by
    rw [show (clsIn K B).isSome = true from h2, h3] <;> rfl
  show (if (subIn K (.ref B) (.type "BaseException") == some true) = true then (if ((clsIn K B).isSome && typeIn K (.ref B) == some (.type "type")) = true then subIn K (.ref S) (.ref B) else none) else none) = some b
  rw [if_pos e1, if_pos e2]; exact h4
/-- what is promised of the law -/
def spTop (K : PySem.W.Frag) : Sp := fun vs H Q _ => ∃ (a : Addr) (ns : List Int), vs = [.ref a] ∧ SqL K H a (ns.map V.int) ∧ ns.length ≤ 63 ∧ ∀ H', Q (.bl true) H'
theorem spTop_of {L : Lx} {mf : DEnv → FRes} (hm : ∀ ns : List Int, ns.length ≤ 63 → ∃ cs, mf [.va (.lsx (ns.map D.int))] = .ok (.bl true) cs) (vs : List V) (H : Hp) (Q : VK) (E : XK) (h : spTop L.K vs H Q E) : spD L 1 mf vs H Q E := by
  obtain ⟨a, ns, rfl, hs, hl, hq⟩ := h
  refine ⟨rfl, [.va (.lsx (ns.map D.int))], H, ⟨Ex.refl H, rfl, fun i c hc => ?_, fun i j c c' xs ys b hij hi hj h1 h2 => ?_⟩, fun i xs h => ?_, ?_⟩
  · cases i with
    | zero =>
      cases hc
      refine ⟨.ref a, rfl, .lsx hs (by simp) fun i v d h1 h2 => ?_⟩
      rw [List.getElem?_map] at h1 h2
      cases q : ns[i]? with
      | none => rw [q] at h1; cases h1
      | some z => rw [q] at h1 h2; cases h1; cases h2; exact .int z
    | succ i => simp at hc
  · cases i with
    | zero => cases hi; cases h1
    | succ i => simp at hi
  · cases i with
    | zero => cases h
    | succ i => simp at h
  · obtain ⟨cs, e⟩ := hm ns hl
    rw [e]
    intro v F' H' _ _ r
    cases r
    exact hq H'
/-- a tuple of texts that the module holds -/
structure TupS (K : PySem.W.Frag) (mg : Str → Option Value) (x : Str) (t : Addr) (ys : List Str) : Prop where
  g : mg x = some (.ref t)
  o : ∃ o, K.lookup t = some o ∧ o.cls = .type "tuple" ∧ o.dict = none
  q : ∀ H, SqT K H t (ys.map V.str)
theorem TupS.rep {K : PySem.W.Frag} {mg : Str → Option Value} {x : Str} {t : Addr} {ys : List Str} (T : TupS K mg x t ys) (F : Hp) : Rep K F (.ref t) (.tup (ys.map D.str)) :=
  .tup (T.q F) (by simp) fun i v d h1 h2 => by
    rw [List.getElem?_map] at h1 h2
    cases q : ys[i]? with
    | none => rw [q] at h1; cases h1
    | some z => rw [q] at h1 h2; cases h1; cases h2; exact .str z
theorem vals_strs : ∀ {ys : List Str} {us : List Value}, us.length = ys.length → (∀ (i : Nat) u z, us[i]? = some u → ys[i]? = some z → ∃ t, u = .str z t) → Vals (ys.map V.str) us
  | [], [], _, _ => .nil
  | y :: ys, u :: us, hl, h => .cons (h 0 u y rfl rfl) (vals_strs (by simpa using hl) fun i u z h1 h2 => h (i + 1) u z h1 h2)
  | [], _ :: _, hl, _ => by simp at hl
  | _ :: _, [], hl, _ => by simp at hl
/-- are these the texts? -/
def strsB : List Value → List Str → Bool
  | [], [] => true
  | .str x _ :: us, y :: ys => x == y && strsB us ys
  | _, _ => false
theorem strsB_ok : ∀ {us : List Value} {ys : List Str}, strsB us ys = true → Vals (ys.map V.str) us
  | [], [], _ => .nil
  | .str x t :: us, y :: ys, h => by
    obtain ⟨h1, h2⟩ := Bool.and_eq_true_iff.mp h
    have e : x = y := by simpa using h1
    subst e
    exact .cons ⟨t, rfl⟩ (strsB_ok h2)
  | [], _ :: _, h => by cases h
  | .str _ _ :: _, [], h => by cases h
  | .none :: _, [], h => by cases h
  | .none :: _, _ :: _, h => by cases h
  | .bool _ :: _, [], h => by cases h
  | .bool _ :: _, _ :: _, h => by cases h
  | .int _ _ :: _, [], h => by cases h
  | .int _ _ :: _, _ :: _, h => by cases h
  | .ref _ :: _, [], h => by cases h
  | .ref _ :: _, _ :: _, h => by cases h
  | .type _ :: _, [], h => by cases h
  | .type _ :: _, _ :: _, h => by cases h
  | .builtin _ :: _, [], h => by cases h
  | .builtin _ :: _, _ :: _, h => by cases h
  | .bytes _ _ :: _, [], h => by cases h
  | .bytes _ _ :: _, _ :: _, h => by cases h
  | .float _ _ :: _, [], h => by cases h
  | .float _ _ :: _, _ :: _, h => by cases h
theorem tupS_mk {K : PySem.W.Frag} {mg : Str → Option Value} {x : Str} {t : Addr} {ys : List Str} {its : Array Value} {n : Nat} {sl : Array (Option Value)} (g : mg x = some (.ref t)) (l : K.lookup t = some ⟨.type "tuple", none, .seq its n, sl⟩) (h : strsB its.toList ys = true) (hs : decide (its.size ≤ 16777216) = true) : TupS K mg x t ys :=
  ⟨g, ⟨_, l, rfl, rfl⟩, fun H => .inr ⟨_, its, n, l, rfl, rfl, by rw [sizeLine_eq]; exact of_decide_eq_true hs, strsB_ok h⟩⟩
end KL
/-! KL, part m: the readings computed; the deck that every law deals from. -/
namespace KL
open PySem L2
/-- an equation that simp must not take as a definition (the kernel would unfold too much) -/
theorem nr {α : Sort _} {a b : α} (h : a = b) : a = b := h
section
variable {α β : Type} {a : α} {Δ Δ1 : DEnv} {x : Exc}
@[simp] theorem seq_nx {f : DEnv → SRes} : (SRes.nx Δ).seq f = f Δ := nr rfl
@[simp] theorem seq_rt {f : DEnv → SRes} {d : D} : (SRes.rt d Δ).seq f = .rt d Δ := nr rfl
@[simp] theorem seq_rf {f : DEnv → SRes} {d : List D} : (SRes.rf d Δ).seq f = .rf d Δ := nr rfl
@[simp] theorem seq_bk {f : DEnv → SRes} : (SRes.bk Δ).seq f = .bk Δ := nr rfl
@[simp] theorem seq_ct {f : DEnv → SRes} : (SRes.ct Δ).seq f = .ct Δ := nr rfl
@[simp] theorem seq_ex {f : DEnv → SRes} : (SRes.ex x Δ).seq f = .ex x Δ := nr rfl
@[simp] theorem loop_nx {f : DEnv → SRes} : (SRes.nx Δ).loop f = f Δ := nr rfl
@[simp] theorem loop_rt {f : DEnv → SRes} {d : D} : (SRes.rt d Δ).loop f = .rt d Δ := nr rfl
@[simp] theorem loop_rf {f : DEnv → SRes} {d : List D} : (SRes.rf d Δ).loop f = .rf d Δ := nr rfl
@[simp] theorem loop_bk {f : DEnv → SRes} : (SRes.bk Δ).loop f = .nx Δ := nr rfl
@[simp] theorem loop_ct {f : DEnv → SRes} : (SRes.ct Δ).loop f = f Δ := nr rfl
@[simp] theorem loop_ex {f : DEnv → SRes} : (SRes.ex x Δ).loop f = .ex x Δ := nr rfl
@[simp] theorem s_ok_ {f : α → DEnv → SRes} : (Res.ok a Δ).s f = f a Δ := nr rfl
@[simp] theorem s_ex_ {f : α → DEnv → SRes} : (Res.ex x Δ : Res α).s f = .ex x Δ := nr rfl
@[simp] theorem bind_ok_ {f : α → DEnv → Res β} : (Res.ok a Δ).bind f = f a Δ := nr rfl
@[simp] theorem bind_ex_ {f : α → DEnv → Res β} : (Res.ex x Δ : Res α).bind f = .ex x Δ := nr rfl
@[simp] theorem map_ok_ {f : α → β} : (Res.ok a Δ).map f = .ok (f a) Δ := nr rfl
@[simp] theorem map_ex_ {f : α → β} : (Res.ex x Δ : Res α).map f = .ex x Δ := nr rfl
@[simp] theorem opt_some_ : (Res.opt (some a) Δ) = .ok a Δ := nr rfl
@[simp] theorem nox_ok_ : (Res.ok a Δ).nox = .ok a Δ := nr rfl
@[simp] theorem gd_true_ {r : Res α} : gd true r = r := nr rfl
@[simp] theorem sq_ {a b : DEnv → SRes} : sq a b Δ = (a Δ).seq b := nr rfl
@[simp] theorem exprS_ {m : DEnv → Res D} : exprS m Δ = (m Δ).s fun _ Δ1 => .nx Δ1 := nr rfl
@[simp] theorem retS_ {m : DEnv → Res D} : retS m Δ = (m Δ).s .rt := nr rfl
@[simp] theorem retFS_ {m : DEnv → Res (List D)} : retFS m Δ = (m Δ).s .rf := nr rfl
@[simp] theorem setS_ {i : Nat} {m : DEnv → Res D} : setS i m Δ = (m Δ).s fun d Δ1 => setM i d Δ1 := nr rfl
@[simp] theorem setOS_ {i : Nat} {m : DEnv → Res (List D)} : setOS i m Δ = (m Δ).s fun d Δ1 => setO i d Δ1 := nr rfl
@[simp] theorem ifS_ {t : DEnv → Res Bool} {a b : DEnv → SRes} : ifS t a b Δ = (t Δ).s fun k Δ1 => if k = true then a Δ1 else b Δ1 := nr rfl
@[simp] theorem forS_ {i : DEnv → Res (List D)} {g : D → DEnv → Option DEnv} {b : DEnv → SRes} : forS i g b Δ = (i Δ).s (forM g b) := nr rfl
@[simp] theorem opM_ {f : D → D → Option α} {ma mb : DEnv → Res D} : opM f ma mb Δ = (ma Δ).bind fun x Δ1 => (mb Δ1).bind fun y Δ2 => .opt (f x y) Δ2 := nr rfl
@[simp] theorem varR_ {i : Nat} : varR i Δ = .opt (rdR Δ i) Δ := nr rfl
@[simp] theorem asB_ {m : DEnv → Res D} : asB m Δ = (m Δ).bind fun d Δ1 => match d with | .bl b => .ok b Δ1 | _ => .stuck := nr rfl
@[simp] theorem truM_ {m : DEnv → Res D} : truM m Δ = (m Δ).bind fun d Δ1 => .opt (truD d) Δ1 := nr rfl
@[simp] theorem notM_ {m : DEnv → Res Bool} : notM m Δ = (m Δ).map (!·) := nr rfl
@[simp] theorem andM_ {m n : DEnv → Res Bool} : andM m n Δ = (m Δ).bind fun c Δ1 => if c = true then n Δ1 else .ok false Δ1 := nr rfl
@[simp] theorem orM_ {m n : DEnv → Res Bool} : orM m n Δ = (m Δ).bind fun c Δ1 => if c = true then .ok true Δ1 else n Δ1 := nr rfl
@[simp] theorem call1_ {g : D → Option D} {m : DEnv → Res D} : call1 g m Δ = (m Δ).bind fun d Δ1 => .opt (g d) Δ1 := nr rfl
@[simp] theorem lstE_ {m : DEnv → Res (List D)} : lstE m Δ = (m Δ).map .lst := nr rfl
@[simp] theorem consM_ {m : DEnv → Res D} {n : DEnv → Res (List D)} : consM m n Δ = (m Δ).bind fun d Δ1 => (n Δ1).map (d :: ·) := nr rfl
@[simp] theorem aV_ {m : DEnv → Res D} {r : DEnv → Res (List Arg)} : aV m r Δ = (m Δ).bind fun d Δ1 => (r Δ1).map (Sum.inl d :: ·) := nr rfl
@[simp] theorem someM_ {m : DEnv → Res D} : someM m Δ = (m Δ).bind fun d Δ1 => match d with | .int i => .ok (some i) Δ1 | _ => .stuck := nr rfl
@[simp] theorem slM_ {f : D → Option Int → Option Int → Option α} {me : DEnv → Res D} {ml mh : DEnv → Res (Option Int)} : slM f me ml mh Δ = (me Δ).bind fun d Δ1 => (ml Δ1).bind fun lo Δ2 => (mh Δ2).bind fun hi Δ3 => .opt (f d lo hi) Δ3 := nr rfl
@[simp] theorem raiseM_ {c f : Str} {m : DEnv → Res D} : raiseM c f m Δ = (m Δ).s fun d Δ1 => .ex (.mk c [(f, d)]) Δ1 := nr rfl
@[simp] theorem andV_ {m n : DEnv → Res D} : andV m n Δ = (m Δ).bind fun d Δ1 => match d with | .bl true => n Δ1 | .bl false => .ok (.bl false) Δ1 | _ => .stuck := nr rfl
@[simp] theorem orV_ {m n : DEnv → Res D} : orV m n Δ = (m Δ).bind fun d Δ1 => match d with | .bl true => .ok (.bl true) Δ1 | .bl false => n Δ1 | _ => .stuck := nr rfl
@[simp] theorem ifM_ {c : DEnv → Res Bool} {m n : DEnv → Res α} : ifM c m n Δ = (c Δ).bind fun k Δ1 => if k = true then m Δ1 else n Δ1 := nr rfl
@[simp] theorem rd_va {d : D} : rdC (.va d) = some d := nr rfl
@[simp] theorem rd_ow {d : List D} : rdC (.ow d) = some (.lst d) := nr rfl
@[simp] theorem rd_pa {d : List D} : rdC (.pa d) = some (.lst d) := nr rfl
@[simp] theorem addD_int {i j : Int} : addD (.int i) (.int j) = some (.int (i + j)) := nr rfl
@[simp] theorem subD_int {i j : Int} : subD (.int i) (.int j) = some (.int (i - j)) := nr rfl
@[simp] theorem ltG_int {i j : Int} : ltG (.int i) (.int j) = some (.bl (decide (i < j))) := nr rfl
@[simp] theorem leG_int {i j : Int} : leG (.int i) (.int j) = some (.bl (decide (i ≤ j))) := nr rfl
@[simp] theorem gtG_int {i j : Int} : gtG (.int i) (.int j) = some (.bl (decide (j < i))) := nr rfl
@[simp] theorem geG_int {i j : Int} : geG (.int i) (.int j) = some (.bl (decide (j ≤ i))) := nr rfl
theorem modD_int {i j : Int} (h : 0 < j) : modD (.int i) (.int j) = some (.int (i % j)) := if_pos (decide_eq_true h)
theorem divD_int {i j : Int} (h : 0 < j ∧ j < 1073741824) : divD (.int i) (.int j) = some (.int (i / j)) := if_pos (decide_eq_true h)
theorem mulD_r {i j : Int} (h : -18446744073709551616 < j ∧ j < 18446744073709551616) : mulD (.int i) (.int j) = some (.int (i * j)) := if_pos (decide_eq_true (.inr h))
theorem mulD_l {i j : Int} (h : -18446744073709551616 < i ∧ i < 18446744073709551616) : mulD (.int i) (.int j) = some (.int (i * j)) := if_pos (decide_eq_true (.inl h))
@[simp] theorem intD1_int {i : Int} : intD1 (.int i) = some (.int i) := nr rfl
@[simp] theorem intD1_bl {b : Bool} : intD1 (.bl b) = some (.int (if b then 1 else 0)) := nr rfl
@[simp] theorem absD_int {i : Int} : absD (.int i) = some (.int (if i < 0 then -i else i)) := nr rfl
@[simp] theorem lenD_lst {xs : List D} : lenD (.lst xs) = some (.int xs.length) := nr rfl
@[simp] theorem lenD_lsx {xs : List D} : lenD (.lsx xs) = some (.int xs.length) := nr rfl
@[simp] theorem lenD_tup {xs : List D} : lenD (.tup xs) = some (.int xs.length) := nr rfl
end
/-- the end of a body -/
def SRes.fin (n : Nat) : SRes → FRes
  | .nx Δ => .ok .non (kpD n Δ)
  | .rt d Δ => .ok d (kpD n Δ)
  | .rf ds Δ => .fr ds (kpD n Δ)
  | .ex x Δ => .ex x (kpD n Δ)
  | _ => .stuck
theorem bodyF_ {n N : Nat} {ms : DEnv → SRes} {cs : DEnv} : bodyF n N ms cs = (ms (cs ++ List.replicate (N - n) .no)).fin n := rfl
@[simp] theorem fin_nx {n : Nat} {Δ : DEnv} : (SRes.nx Δ).fin n = .ok .non (kpD n Δ) := nr rfl
@[simp] theorem fin_rt {n : Nat} {d : D} {Δ : DEnv} : (SRes.rt d Δ).fin n = .ok d (kpD n Δ) := nr rfl
@[simp] theorem fin_rf {n : Nat} {ds : List D} {Δ : DEnv} : (SRes.rf ds Δ).fin n = .fr ds (kpD n Δ) := nr rfl
@[simp] theorem fin_ex {n : Nat} {x : Exc} {Δ : DEnv} : (SRes.ex x Δ).fin n = .ex x (kpD n Δ) := nr rfl
def keepC : Cell → Cell
  | .pav xs => .pav xs
  | _ => .no
@[simp] theorem keepC_pa {xs : OwnV} : keepC (.pav xs) = .pav xs := nr rfl
@[simp] theorem keepC_va {d : D} : keepC (.va d) = .no := nr rfl
@[simp] theorem keepC_ow {xs : OwnV} : keepC (.owv xs) = .no := nr rfl
@[simp] theorem keepC_no : keepC .no = .no := nr rfl
theorem kpD_map {n : Nat} {Δ : DEnv} (h : n ≤ Δ.length) : kpD n Δ = (Δ.take n).map keepC := by
  apply List.ext_getElem?
  intro i
  unfold kpD
  rw [List.getElem?_map, List.getElem?_map, List.getElem?_take]
  by_cases hi : i < n
  · rw [List.getElem?_range hi, if_pos hi, List.getElem?_eq_getElem (by omega)]
    show some (match (Δ[i]? : Option Cell) with | some (Cell.pav xs) => Cell.pav xs | _ => Cell.no) = some (keepC Δ[i])
    rw [List.getElem?_eq_getElem (by omega)]
    cases Δ[i] <;> rfl
  · rw [List.getElem?_eq_none (by simpa using hi), if_neg hi]; rfl
@[simp] theorem eqD_int {i j : Int} : eqD (.int i) (.int j) = some (.bl (decide (i = j))) := nr rfl
@[simp] theorem neD_int {i j : Int} : neD (.int i) (.int j) = some (.bl (!decide (i = j))) := nr rfl
@[simp] theorem eqD_str {i j : Str} : eqD (.str i) (.str j) = some (.bl (decide (i = j))) := nr rfl
@[simp] theorem neD_str {i j : Str} : neD (.str i) (.str j) = some (.bl (!decide (i = j))) := nr rfl
/-- may the slot be set? -/
def canC : Cell → Bool
  | .pav _ => false
  | _ => true
@[simp] theorem canC_no : canC .no = true := nr rfl
@[simp] theorem canC_va {d : D} : canC (.va d) = true := nr rfl
@[simp] theorem canC_ow {xs : OwnV} : canC (.owv xs) = true := nr rfl
theorem canSet_ {Δ : DEnv} {i : Nat} : canSet Δ i = match (Δ[i]? : Option Cell) with | some c => canC c | none => false := by
  unfold canSet
  cases (Δ[i]? : Option Cell) with
  | none => rfl
  | some c => cases c <;> rfl
/-- a walk that goes through -/
theorem forM_all {tgt : D → DEnv → Option DEnv} {body : DEnv → SRes} {P : Nat → DEnv → Prop} : ∀ {xs : List D} {Δ : DEnv} (k : Nat), P k Δ → (∀ i d Δ, xs[i]? = some d → P (k + i) Δ → ∃ Δ1 Δ2, tgt d Δ = some Δ1 ∧ body Δ1 = .nx Δ2 ∧ P (k + i + 1) Δ2) → ∃ Δ', forM tgt body xs Δ = .nx Δ' ∧ P (k + xs.length) Δ'
  | [], Δ, k, h0, _ => ⟨Δ, rfl, h0⟩
  | x :: xs, Δ, k, h0, hs => by
    obtain ⟨Δ1, Δ2, e1, e2, e3⟩ := hs 0 x Δ rfl h0
    obtain ⟨Δ', f1, f2⟩ := forM_all (xs := xs) (Δ := Δ2) (k + 1) e3 fun i d Δ hi hp => by
      have := hs (i + 1) d Δ (by simpa using hi) (by rw [show k + (i + 1) = k + 1 + i by omega]; exact hp)
      rw [show k + (i + 1) + 1 = k + 1 + i + 1 by omega] at this
      exact this
    refine ⟨Δ', ?_, by rw [List.length_cons, show k + (xs.length + 1) = k + 1 + xs.length by omega]; exact f2⟩
    show (match tgt x Δ with | none => SRes.stuck | some Δ1 => (body Δ1).loop (forM tgt body xs)) = _
    rw [e1]
    show (body Δ1).loop (forM tgt body xs) = _
    rw [e2, loop_nx, f1]
/-- over the numbers from lo on -/
theorem forM_rng {tgt : D → DEnv → Option DEnv} {body : DEnv → SRes} {P : Nat → DEnv → Prop} {lo : Int} {n : Nat} {Δ : DEnv} (h0 : P 0 Δ) (hs : ∀ (i : Nat) Δ, i < n → P i Δ → ∃ Δ1 Δ2, tgt (.int (lo + (i : Int))) Δ = some Δ1 ∧ body Δ1 = .nx Δ2 ∧ P (i + 1) Δ2) :
    ∃ Δ', forM tgt body (rangeL lo n) Δ = .nx Δ' ∧ P n Δ' := by
  have hl : (rangeL lo n).length = n := by simp [rangeL]
  obtain ⟨Δ', h1, h2⟩ := forM_all (tgt := tgt) (body := body) (P := P) (xs := rangeL lo n) (Δ := Δ) 0 h0 fun i d Δ hi hp => by
    unfold rangeL at hi
    rw [List.getElem?_map] at hi
    cases q : (List.range n)[i]? with
    | none => rw [q] at hi; cases hi
    | some j =>
      rw [q] at hi
      cases hi
      have hi : i < n := by have := (List.getElem?_eq_some_iff.mp q).1; simpa using this
      have hj : j = i := by rw [List.getElem?_range hi] at q; cases q; rfl
      subst hj
      rw [Nat.zero_add] at hp ⊢
      exact hs j Δ hi hp
  rw [hl, Nat.zero_add] at h2
  exact ⟨Δ', h1, h2⟩
def rng1 (d : D) (Δ1 : DEnv) : Res (List D) := match d with
  | .int j => gd (decide (-4611686018427387904 ≤ j ∧ j < 4611686018427387904)) (.ok (rangeL 0 j.toNat) Δ1)
  | _ => .stuck
theorem range1_ {m : DEnv → Res D} {Δ : DEnv} : range1M m Δ = (m Δ).bind rng1 := by
  have h : range1M m Δ = (m Δ).bind rng1 := rfl
  exact h.trans (Eq.refl _)
def lim62 : Int := 4611686018427387904
theorem rng1_int {j : Int} {Δ : DEnv} (h : 0 ≤ j) (h2 : j < lim62) : rng1 (.int j) Δ = .ok (rangeL 0 j.toNat) Δ := by
  unfold lim62 at h2
  show gd (decide (-4611686018427387904 ≤ j ∧ j < 4611686018427387904)) _ = _
  rw [decide_eq_true ⟨by omega, h2⟩]; rfl
theorem rng1_nat {e : Nat} {Δ : DEnv} (he : (e : Int) < lim62) : rng1 (.int (e : Int)) Δ = .ok (rangeL 0 e) Δ := rng1_int (Int.natCast_nonneg e) he
theorem powD_int {i j : Int} (h : 0 ≤ j ∧ j ≤ 1000000 ∧ i.natAbs < 18446744073709551616) : powD (.int i) (.int j) = some (.int (i ^ j.toNat)) := if_pos (decide_eq_true h)
theorem ixD_lsx {ns : List Int} {k : Nat} (h : k < ns.length) : ixD (.lsx (ns.map D.int)) (.int (k : Nat)) = some (.int ns[k]) := by
  show atI (ns.map D.int) (k : Nat) = _
  unfold atI ixN
  rw [if_pos (by omega), if_pos (by rw [List.length_map]; omega)]
  simp [h]
theorem tgN_ {Δ : DEnv} {i : Nat} {d : D} (h : canSet Δ i = true) : tgN i d Δ = some (Δ.set i (.va d)) := if_pos h
/-- a walk that goes through, then the rest -/
theorem forM_app {tgt : D → DEnv → Option DEnv} {body : DEnv → SRes} {P : Nat → DEnv → Prop} (ys : List D) : ∀ {xs : List D} {Δ : DEnv} (k : Nat), P k Δ → (∀ i d Δ, xs[i]? = some d → P (k + i) Δ → ∃ Δ1 Δ2, tgt d Δ = some Δ1 ∧ body Δ1 = .nx Δ2 ∧ P (k + i + 1) Δ2) → ∃ Δ', forM tgt body (xs ++ ys) Δ = forM tgt body ys Δ' ∧ P (k + xs.length) Δ'
  | [], Δ, k, h0, _ => ⟨Δ, rfl, h0⟩
  | x :: xs, Δ, k, h0, hs => by
    obtain ⟨Δ1, Δ2, e1, e2, e3⟩ := hs 0 x Δ rfl h0
    obtain ⟨Δ', f1, f2⟩ := forM_app ys (xs := xs) (Δ := Δ2) (k + 1) e3 fun i d Δ hi hp => by
      have := hs (i + 1) d Δ (by simpa using hi) (by rw [show k + (i + 1) = k + 1 + i by omega]; exact hp)
      rw [show k + (i + 1) + 1 = k + 1 + i + 1 by omega] at this
      exact this
    refine ⟨Δ', ?_, by rw [List.length_cons, show k + (xs.length + 1) = k + 1 + xs.length by omega]; exact f2⟩
    show (match tgt x Δ with | none => SRes.stuck | some Δ1 => (body Δ1).loop (forM tgt body (xs ++ ys))) = _
    rw [e1]
    show (body Δ1).loop (forM tgt body (xs ++ ys)) = _
    rw [e2, loop_nx, f1]
theorem forM_cons {tgt : D → DEnv → Option DEnv} {body : DEnv → SRes} {x : D} {xs : List D} {Δ Δ1 : DEnv} (h : tgt x Δ = some Δ1) : forM tgt body (x :: xs) Δ = (body Δ1).loop (forM tgt body xs) := by
  show (match tgt x Δ with | none => SRes.stuck | some Δ1 => (body Δ1).loop (forM tgt body xs)) = _
  rw [h]
theorem forM_nil {tgt : D → DEnv → Option DEnv} {body : DEnv → SRes} {Δ : DEnv} : forM tgt body [] Δ = .nx Δ := rfl
/-- a comprehension that goes through -/
theorem compM_ok {vs : List Nat} {tgt : D → DEnv → Option DEnv} {cond : DEnv → Res Bool} {elt : DEnv → Res D} {Δ : DEnv} : ∀ {xs ys acc : List D}, xs.length = ys.length →
    (∀ (i : Nat) x, xs[i]? = some x → ∃ Δ1 Δ3 y, tgt x (wipeD Δ vs) = some Δ1 ∧ cond Δ1 = .ok true Δ1 ∧ elt Δ1 = .ok y Δ3 ∧ ys[i]? = some y ∧ restD Δ Δ3 vs = Δ) → compM vs tgt cond elt xs acc Δ = .ok (acc ++ ys) Δ
  | [], [], acc, _, _ => by rw [List.append_nil]; rfl
  | x :: xs, y :: ys, acc, hl, h => by
    obtain ⟨Δ1, Δ3, z, e1, e2, e3, e4, e5⟩ := h 0 x rfl
    cases e4
    have ih := compM_ok (cond := cond) (elt := elt) (xs := xs) (ys := ys) (acc := acc ++ [y]) (by simpa using hl) fun i x hi => h (i + 1) x (by simpa using hi)
    unfold compM
    rw [e1]
    show (cond Δ1).nox.bind _ = _
    rw [e2, nox_ok_, bind_ok_, if_pos rfl, e3, nox_ok_, bind_ok_, e5, ih, List.append_assoc]; rfl
  | [], _ :: _, _, hl, _ => by simp at hl
  | _ :: _, [], _, hl, _ => by simp at hl
theorem rangeL_get {lo : Int} {n i : Nat} {d : D} (h : (rangeL lo n)[i]? = some d) : i < n ∧ d = .int (lo + (i : Int)) := by
  unfold rangeL at h
  rw [List.getElem?_map] at h
  cases q : (List.range n)[i]? with
  | none => rw [q] at h; cases h
  | some j =>
    rw [q] at h
    cases h
    have hi : i < n := by have := (List.getElem?_eq_some_iff.mp q).1; simpa using this
    rw [List.getElem?_range hi] at q; cases q; exact ⟨hi, rfl⟩
theorem rangeL_len {lo : Int} {n : Nat} : (rangeL lo n).length = n := by simp [rangeL]
theorem rangeC_get {lo c : Int} {n i : Nat} {d : D} (h : (rangeC lo c n)[i]? = some d) : i < n ∧ d = .int (lo + (i : Int) * c) := by
  unfold rangeC at h
  rw [List.getElem?_map] at h
  cases q : (List.range n)[i]? with
  | none => rw [q] at h; cases h
  | some j =>
    rw [q] at h
    cases h
    have hi : i < n := by have := (List.getElem?_eq_some_iff.mp q).1; simpa using this
    rw [List.getElem?_range hi] at q; cases q; exact ⟨hi, rfl⟩
theorem rangeC_len {lo c : Int} {n : Nat} : (rangeC lo c n).length = n := by simp [rangeC]
/-! texts by their signs -/
def S (l : List Nat) : Str := ⟨l.toArray⟩
theorem S_app (a b : List Nat) : S a ++ S b = S (a ++ b) := by
  show Str.append (S a) (S b) = _
  unfold Str.append S; simp
theorem S_len (a : List Nat) : (S a).length = a.length := by unfold Str.length S; simp
theorem S_inj {a b : List Nat} : S a = S b ↔ a = b := by
  constructor
  · intro h; have := congrArg (fun s : Str => s.cps.toList) h; simpa [S] using this
  · intro h; rw [h]
theorem opV_ok {α : Type} {f : D → D → Option α} {i : Nat} {mb : DEnv → Res D} {Δ : DEnv} {x y : D} {z : α} (h : rdR Δ i = some x) (hb : mb Δ = .ok y Δ) (hf : f x y = some z) : opV f i mb Δ = .ok z Δ := by
  unfold opV
  rw [h, hb]
  show Res.opt ((rdR Δ i).bind fun x => f x y) Δ = _
  rw [h, Option.bind_some, hf]; rfl
theorem opM_ok {α : Type} {f : D → D → Option α} {ma mb : DEnv → Res D} {Δ Δ1 Δ2 : DEnv} {x y : D} {z : α} (h : ma Δ = .ok x Δ1) (hb : mb Δ1 = .ok y Δ2) (hf : f x y = some z) : opM f ma mb Δ = .ok z Δ2 := by
  rw [opM_, h, bind_ok_, hb, bind_ok_, hf]; rfl
/-! calls with values alone -/
theorem backD_in1 {d : D} {cs Δ : DEnv} : backD [Sum.inl d] cs Δ = Δ := by
  cases cs with
  | nil => rfl
  | cons c cs => cases cs <;> rfl
theorem backD_in2 {d e : D} {cs Δ : DEnv} : backD [Sum.inl d, Sum.inl e] cs Δ = Δ := by
  cases cs with
  | nil => rfl
  | cons c cs => exact backD_in1
theorem callV1 {F : DEnv → FRes} {m : DEnv → Res D} {Δ Δ1 cs : DEnv} {d r : D} (h : m Δ = .ok d Δ1) (hF : F [.va d] = .ok r cs) : callM F (aV m (cst ([] : List Arg))) Δ = .ok r Δ1 := by
  unfold callM callG
  rw [aV_, h, bind_ok_, map_ok_, bind_ok_]
  show FRes.toR [Sum.inl d] Δ1 (F [.va d]) = _
  rw [hF]
  show Res.ok r (backD [Sum.inl d] cs Δ1) = _
  rw [backD_in1]
theorem callV1x {F : DEnv → FRes} {m : DEnv → Res D} {Δ Δ1 cs : DEnv} {d : D} {x : Exc} (h : m Δ = .ok d Δ1) (hF : F [.va d] = .ex x cs) : callM F (aV m (cst ([] : List Arg))) Δ = .ex x Δ1 := by
  unfold callM callG
  rw [aV_, h, bind_ok_, map_ok_, bind_ok_]
  show FRes.toR [Sum.inl d] Δ1 (F [.va d]) = _
  rw [hF]
  show Res.ex x (backD [Sum.inl d] cs Δ1) = _
  rw [backD_in1]
theorem callV1f {F : DEnv → FRes} {m : DEnv → Res D} {Δ Δ1 cs : DEnv} {d : D} {r : List D} (h : m Δ = .ok d Δ1) (hF : F [.va d] = .fr r cs) : callF F (aV m (cst ([] : List Arg))) Δ = .ok r Δ1 := by
  unfold callF callG
  rw [aV_, h, bind_ok_, map_ok_, bind_ok_]
  show FRes.toF [Sum.inl d] Δ1 (F [.va d]) = _
  rw [hF]
  show Res.ok r (backD [Sum.inl d] cs Δ1) = _
  rw [backD_in1]
theorem callV2 {F : DEnv → FRes} {m n : DEnv → Res D} {Δ Δ1 Δ2 cs : DEnv} {d e r : D} (h : m Δ = .ok d Δ1) (h2 : n Δ1 = .ok e Δ2) (hF : F [.va d, .va e] = .ok r cs) : callM F (aV m (aV n (cst ([] : List Arg)))) Δ = .ok r Δ2 := by
  unfold callM callG
  rw [aV_, h, bind_ok_, aV_, h2, bind_ok_, map_ok_, map_ok_, bind_ok_]
  show FRes.toR [Sum.inl d, Sum.inl e] Δ2 (F [.va d, .va e]) = _
  rw [hF]
  show Res.ok r (backD [Sum.inl d, Sum.inl e] cs Δ2) = _
  rw [backD_in2]
theorem varM_va {i : Nat} {Δ : DEnv} {d : D} (h : Δ[i]? = some (.va d)) : varM i Δ = .ok d Δ := by unfold varM; rw [h]
theorem varR_ok {i : Nat} {Δ : DEnv} {d : D} (h : rdR Δ i = some d) : varR i Δ = .ok d Δ := by rw [varR_, h]; rfl
theorem asB_ok {m : DEnv → Res D} {Δ Δ1 : DEnv} {b : Bool} (h : m Δ = .ok (.bl b) Δ1) : asB m Δ = .ok b Δ1 := by rw [asB_, h]; rfl
theorem lstE_ok {m : DEnv → Res (List D)} {Δ Δ1 : DEnv} {xs : List D} (h : m Δ = .ok xs Δ1) : lstE m Δ = .ok (.lst xs) Δ1 := by rw [lstE_, h]; rfl
theorem ifS_ok {t : DEnv → Res Bool} {a b : DEnv → SRes} {Δ Δ1 : DEnv} {k : Bool} (h : t Δ = .ok k Δ1) : ifS t a b Δ = if k = true then a Δ1 else b Δ1 := by rw [ifS_, h]; rfl
theorem setS_ok {i : Nat} {m : DEnv → Res D} {Δ Δ1 : DEnv} {d : D} (h : m Δ = .ok d Δ1) (hc : canSet Δ1 i = true) : setS i m Δ = .nx (Δ1.set i (.va d)) := by
  rw [setS_, h, s_ok_]; unfold setM; rw [if_pos hc]
theorem or_ok {m n : DEnv → Res Bool} {Δ Δ1 Δ2 : DEnv} (h : m Δ = .ok false Δ1) (h2 : n Δ1 = .ok false Δ2) : orM m n Δ = .ok false Δ2 := by rw [orM_, h, bind_ok_]; exact h2
theorem andV_ok {m n : DEnv → Res D} {Δ Δ1 Δ2 : DEnv} {b : Bool} (h : m Δ = .ok (.bl true) Δ1) (h2 : n Δ1 = .ok (.bl b) Δ2) : andV m n Δ = .ok (.bl b) Δ2 := by rw [andV_, h, bind_ok_]; exact h2
theorem retS_ok {m : DEnv → Res D} {Δ Δ1 : DEnv} {d : D} (h : m Δ = .ok d Δ1) : retS m Δ = .rt d Δ1 := by rw [retS_, h]; rfl
namespace Cm
def law_deck_b1 : DEnv → SRes := (sq (exprS (appendM 3 (opM modD (call1 intD1 (varR 7)) (cst (D.int 1000003))))) (setS 7 (opV divD 7 (cst (D.int 1000003)))))
def law_deck_b2 : DEnv → SRes := (sq (setS 4 (opM modD (call1 intD1 (opM addD (opM addD (opV mulD 4 (cst (D.int 69621))) (varR 8)) (cst (D.int 1)))) (cst (D.int 2147483629)))) (exprS (appendM 3 (opM modD (call1 intD1 (opV divD 4 (cst (D.int 5)))) (cst (D.int 1000003))))))
def law_deck_b3 : DEnv → SRes := (sq (setS 6 (cst (D.int 0))) (sq (ifS (asB (opV ltG 5 (call1 lenD (varR 0)))) (setS 6 (opV ixD 0 (varR 5))) SRes.nx) (sq (setS 7 (call1 absD (varR 6))) (ifS (asB (opV geG 7 (opM powD (cst (D.int 10)) (cst (D.int 30))))) (forS (range1M (varM 2)) (tgN 8) law_deck_b1) (sq (setS 4 (opM modD (call1 intD1 (opM addD (opM addD (opM addD (opV mulD 4 (cst (D.int 48271))) (opM mulD (cst (D.int 2)) (varR 7))) (call1 intD1 (opV ltG 6 (cst (D.int 0))))) (varR 5))) (cst (D.int 2147483647)))) (forS (range1M (varM 2)) (tgN 8) law_deck_b2))))))
def m_law_deck : DEnv → SRes := (sq (setOS 3 (lstM (cst ([] : List D)))) (sq (setS 4 (opM addD (cst (D.int 7)) (call1 lenD (varR 0)))) (sq (forS (range1M (varM 1)) (tgN 5) law_deck_b3) (sq (exprS (reverseM 3)) (retO 3)))))
def F_law_deck : DEnv → FRes := bodyF 3 9 m_law_deck
def m_law_take : DEnv → SRes := (sq (ifS (asB (opM eqD (call1 lenD (varR 0)) (cst (D.int 0)))) (retS (cst (D.int 0))) SRes.nx) (retS (opM modD (call1 intD1 (popM 0)) (varR 1))))
def F_law_take : DEnv → FRes := bodyF 2 2 m_law_take
/-- what a deal gives, and what is left -/
def tk (l : List Int) (m : Int) : Int := match l.getLast? with
  | none => 0
  | some z => z % m
theorem take_ok (l : List Int) (m : Int) (hm : 0 < m) : F_law_take [.pa (l.map D.int), .va (.int m)] = .ok (.int (tk l m)) [.pa (l.dropLast.map D.int), .no] := by
  unfold F_law_take m_law_take
  rw [bodyF_]
  rcases List.eq_nil_or_concat l with rfl | ⟨l', z, rfl⟩
  · simp [rdR, kpD_map, tk]
  · have h : ¬ ((l'.length : Int) + 1 = 0) := by omega
    simp [rdR, kpD_map, tk, h, popM, getL, setW, Cell.list?, modD_int hm]
theorem tk_lt (l : List Int) {m : Int} (hm : 0 < m) : ∃ t : Nat, tk l m = (t : Int) ∧ (t : Int) < m := by
  unfold tk
  cases l.getLast? with
  | none => exact ⟨0, rfl, hm⟩
  | some z =>
    have h1 := Int.emod_nonneg z (Int.ne_of_gt hm)
    have h2 := Int.emod_lt_of_pos z hm
    exact ⟨(z % m).toNat, by show z % m = _; omega, by show ((z % m).toNat : Int) < m; omega⟩
theorem take_call {i : Nat} {Δ : DEnv} {l : List Int} {m : Int} (hm : 0 < m) (h : Δ[i]? = some (.ow (l.map D.int))) : callM F_law_take (aO i (aV (cst (D.int m)) (cst ([] : List Arg)))) Δ = .ok (.int (tk l m)) (Δ.set i (.ow (l.dropLast.map D.int))) := by
  have hg : getO Δ i = some (.l (l.map D.int)) := by unfold getO; rw [h]; rfl
  have ha : aO i (aV (cst (D.int m)) (cst ([] : List Arg))) Δ = .ok [Sum.inr i, Sum.inl (.int m)] Δ := by unfold aO; rw [hg]; rfl
  have hc : cellsOf Δ [Sum.inr i, Sum.inl (.int m)] = some [.pa (l.map D.int), .va (.int m)] := by
    show (getO Δ i).bind _ = _
    rw [hg]; rfl
  unfold callM callG
  rw [ha, bind_ok_, hc]
  show (if (slotsOf [Sum.inr i, Sum.inl (D.int m)]).Nodup then FRes.toR [Sum.inr i, Sum.inl (.int m)] Δ (F_law_take [.pa (l.map D.int), .va (.int m)]) else .stuck) = _
  rw [if_pos (by show [i].Nodup; simp), take_ok l m hm]
  show Res.ok (D.int (tk l m)) (setW Δ i (.l (l.dropLast.map D.int))) = _
  unfold setW; rw [h]
theorem deck_b1 {s0 c0 e0 : Cell} {l : List Int} {sd k ce r : Int} {at_ : D} (hl : l.length < 16777216) :
    law_deck_b1 [s0, c0, e0, .ow (l.map D.int), .va (.int sd), .va (.int k), .va (.int ce), .va (.int r), .va at_] = .nx [s0, c0, e0, .ow ((l ++ [r % 1000003]).map D.int), .va (.int sd), .va (.int k), .va (.int ce), .va (.int (r / 1000003)), .va at_] := by
  unfold law_deck_b1
  simp [rdR, getL, setW, Cell.list?, modD_int, divD_int, appendM, opV, hl, setM, canSet_]
theorem deck_b2 {s0 c0 e0 : Cell} {l : List Int} {sd k ce r a : Int} (hl : l.length < 16777216) :
    ∃ sd', law_deck_b2 [s0, c0, e0, .ow (l.map D.int), .va (.int sd), .va (.int k), .va (.int ce), .va (.int r), .va (.int a)] = .nx [s0, c0, e0, .ow ((l ++ [sd' / 5 % 1000003]).map D.int), .va (.int sd'), .va (.int k), .va (.int ce), .va (.int r), .va (.int a)] := by
  refine ⟨(sd * 69621 + a + 1) % 2147483629, ?_⟩
  unfold law_deck_b2
  simp [rdR, getL, setW, Cell.list?, modD_int, divD_int, mulD_r, appendM, opV, hl, setM, canSet_]
theorem deck_l1 {s0 c0 e0 : Cell} {l : List Int} {e k : Nat} {sd z r : Int} {c8 : Cell} (h8 : canC c8 = true) (hl : l.length + e < 16777216) :
    ∃ (l' : List Int) (r' : Int) (d8 : Cell), forM (tgN 8) law_deck_b1 (rangeL 0 e) [s0, c0, e0, .ow (l.map D.int), .va (.int sd), .va (.int k), .va (.int z), .va (.int r), c8] =
      .nx [s0, c0, e0, .ow (l'.map D.int), .va (.int sd), .va (.int k), .va (.int z), .va (.int r'), d8] ∧ l'.length = l.length + e ∧ canC d8 = true := by
  obtain ⟨Δ', e1, l', r, c8', e2, e3, e4⟩ := forM_rng (tgt := tgN 8) (body := law_deck_b1) (lo := 0) (n := e) (Δ := [s0, c0, e0, .ow (l.map D.int), .va (.int sd), .va (.int k), .va (.int z), .va (.int r), c8])
    (P := fun i Δ => ∃ (l' : List Int) (r : Int) (d8 : Cell), Δ = [s0, c0, e0, .ow (l'.map D.int), .va (.int sd), .va (.int k), .va (.int z), .va (.int r), d8] ∧ l'.length = l.length + i ∧ canC d8 = true)
    ⟨l, _, c8, rfl, rfl, h8⟩ fun i Δ hi ⟨l', r, d8, hΔ, hl', h8'⟩ => by
      subst hΔ
      exact ⟨_, _, tgN_ (by simp [canSet_, h8']), deck_b1 (by omega), _, _, _, rfl, by simp; omega, rfl⟩
  exact ⟨l', r, c8', e1.trans (by rw [e2]), e3, e4⟩
theorem deck_l2 {s0 c0 e0 : Cell} {l : List Int} {e k : Nat} {sd z r : Int} {c8 : Cell} (h8 : canC c8 = true) (hl : l.length + e < 16777216) :
    ∃ (l' : List Int) (sd' : Int) (d8 : Cell), forM (tgN 8) law_deck_b2 (rangeL 0 e) [s0, c0, e0, .ow (l.map D.int), .va (.int sd), .va (.int k), .va (.int z), .va (.int r), c8] =
      .nx [s0, c0, e0, .ow (l'.map D.int), .va (.int sd'), .va (.int k), .va (.int z), .va (.int r), d8] ∧ l'.length = l.length + e ∧ canC d8 = true := by
  obtain ⟨Δ', e1, l', sd', c8', e2, e3, e4⟩ := forM_rng (tgt := tgN 8) (body := law_deck_b2) (lo := 0) (n := e) (Δ := [s0, c0, e0, .ow (l.map D.int), .va (.int sd), .va (.int k), .va (.int z), .va (.int r), c8])
    (P := fun i Δ => ∃ (l' : List Int) (sd : Int) (d8 : Cell), Δ = [s0, c0, e0, .ow (l'.map D.int), .va (.int sd), .va (.int k), .va (.int z), .va (.int r), d8] ∧ l'.length = l.length + i ∧ canC d8 = true)
    ⟨l, _, c8, rfl, rfl, h8⟩ fun i Δ hi ⟨l', sd', d8, hΔ, hl', h8'⟩ => by
      subst hΔ
      obtain ⟨sd2, hb⟩ := deck_b2 (s0 := s0) (c0 := c0) (e0 := e0) (l := l') (sd := sd') (k := k) (ce := z) (r := r) (a := 0 + (i : Int)) (by omega)
      exact ⟨_, _, tgN_ (by simp [canSet_, h8']), hb, _, _, _, rfl, by simp; omega, rfl⟩
  exact ⟨l', sd', c8', e1.trans (by rw [e2]), e3, e4⟩
def deck_t : DEnv → SRes := sq (setS 7 (call1 absD (varR 6))) (ifS (asB (opV geG 7 (opM powD (cst (D.int 10)) (cst (D.int 30))))) (forS (range1M (varM 2)) (tgN 8) law_deck_b1) (sq (setS 4 (opM modD (call1 intD1 (opM addD (opM addD (opM addD (opV mulD 4 (cst (D.int 48271))) (opM mulD (cst (D.int 2)) (varR 7))) (call1 intD1 (opV ltG 6 (cst (D.int 0))))) (varR 5))) (cst (D.int 2147483647)))) (forS (range1M (varM 2)) (tgN 8) law_deck_b2)))
theorem deck_tail {s0 c0 : Cell} {l : List Int} {e k : Nat} {sd z : Int} {c7 c8 : Cell} (h7 : canC c7 = true) (h8 : canC c8 = true) (hl : l.length + e < 16777216) :
    ∃ (l' : List Int) (sd' : Int) (d6 d7 d8 : Cell), deck_t [s0, c0, .va (.int e), .ow (l.map D.int), .va (.int sd), .va (.int k), .va (.int z), c7, c8] = .nx [s0, c0, .va (.int e), .ow (l'.map D.int), .va (.int sd'), .va (.int k), d6, d7, d8] ∧ l'.length = l.length + e ∧ canC d6 = true ∧ canC d7 = true ∧ canC d8 = true := by
  have he : (e : Int) < lim62 := by unfold lim62; omega
  have hp : powD (.int 10) (.int 30) = some (.int 1000000000000000000000000000000) := by rw [powD_int (by decide)]; simp
  unfold deck_t
  by_cases hz : (1000000000000000000000000000000 : Int) ≤ (if z < 0 then -z else z)
  · obtain ⟨l', r', d8, e1, e3, e4⟩ := deck_l1 (s0 := s0) (c0 := c0) (e0 := .va (.int e)) (l := l) (e := e) (k := k) (sd := sd) (z := z) (r := if z < 0 then -z else z) h8 hl
    refine ⟨l', sd, .va (.int z), .va (.int r'), d8, ?_, e3, rfl, rfl, e4⟩
    simp [setM, canSet_, h7, rdR, opV, hp, hz, range1_, rng1_nat he, varM, e1]
  · obtain ⟨l', sd', d8, e1, e3, e4⟩ := deck_l2 (s0 := s0) (c0 := c0) (e0 := .va (.int e)) (l := l) (e := e) (k := k) (sd := (sd * 48271 + 2 * (if z < 0 then -z else z) + (if z < 0 then 1 else 0) + k) % 2147483647) (z := z) (r := if z < 0 then -z else z) h8 hl
    refine ⟨l', sd', .va (.int z), .va (.int (if z < 0 then -z else z)), d8, ?_, e3, rfl, rfl, e4⟩
    simp [setM, canSet_, h7, rdR, opV, hp, hz, range1_, rng1_nat he, varM, e1, modD_int, mulD_r, mulD_l]
theorem deck_b3 {ns l : List Int} {c0 : Cell} {e k : Nat} {sd : Int} {c6 c7 c8 : Cell} (h6 : canC c6 = true) (h7 : canC c7 = true) (h8 : canC c8 = true) (hl : l.length + e < 16777216) :
    ∃ (l' : List Int) (sd' : Int) (d6 d7 d8 : Cell), law_deck_b3 [.va (.lsx (ns.map D.int)), c0, .va (.int e), .ow (l.map D.int), .va (.int sd), .va (.int k), c6, c7, c8] = .nx [.va (.lsx (ns.map D.int)), c0, .va (.int e), .ow (l'.map D.int), .va (.int sd'), .va (.int k), d6, d7, d8] ∧
      l'.length = l.length + e ∧ canC d6 = true ∧ canC d7 = true ∧ canC d8 = true := by
  have e0 : law_deck_b3 = sq (setS 6 (cst (D.int 0))) (sq (ifS (asB (opV ltG 5 (call1 lenD (varR 0)))) (setS 6 (opV ixD 0 (varR 5))) SRes.nx) deck_t) := rfl
  rw [e0]
  by_cases hk : k < ns.length
  · obtain ⟨l', sd', d6, d7, d8, h, r⟩ := deck_tail (s0 := .va (.lsx (ns.map D.int))) (c0 := c0) (k := k) (sd := sd) (z := ns[k]) h7 h8 hl
    refine ⟨l', sd', d6, d7, d8, ?_, r⟩
    rw [← h]
    simp [setM, canSet_, h6, rdR, opV, hk, ixD_lsx hk]
  · obtain ⟨l', sd', d6, d7, d8, h, r⟩ := deck_tail (s0 := .va (.lsx (ns.map D.int))) (c0 := c0) (k := k) (sd := sd) (z := 0) h7 h8 hl
    refine ⟨l', sd', d6, d7, d8, ?_, r⟩
    rw [← h]
    simp [setM, canSet_, h6, rdR, opV, hk]
theorem deck_ok (ns : List Int) (c e : Nat) (hc : c < 1000000) (hl : c * e < 16777216) : ∃ l : List Int, l.length = c * e ∧ F_law_deck [.va (.lsx (ns.map D.int)), .va (.int c), .va (.int e)] = .fr (l.map D.int) [.no, .no, .no] := by
  have hcc : (c : Int) < lim62 := by unfold lim62; omega
  obtain ⟨Δ', e1, l', sd', d6, d7, d8, k, e2, e3, e4⟩ := forM_rng (tgt := tgN 5) (body := law_deck_b3) (lo := 0) (n := c) (Δ := [.va (.lsx (ns.map D.int)), .va (.int c), .va (.int e), .ow [], .va (.int (7 + (ns.length : Int))), .no, .no, .no, .no])
    (P := fun i Δ => ∃ (l' : List Int) (sd : Int) (d6 d7 d8 d5 : Cell), Δ = [.va (.lsx (ns.map D.int)), .va (.int c), .va (.int e), .ow (l'.map D.int), .va (.int sd), d5, d6, d7, d8] ∧ l'.length = i * e ∧ canC d5 = true ∧ canC d6 = true ∧ canC d7 = true ∧ canC d8 = true)
    ⟨[], _, _, _, _, _, rfl, by simp, rfl, rfl, rfl, rfl⟩ fun i Δ hi ⟨l', sd', d6, d7, d8, d5, hΔ, hl', h5, h6, h7, h8⟩ => by
      subst hΔ
      have hle : l'.length + e < 16777216 := by
        have : (i + 1) * e ≤ c * e := Nat.mul_le_mul_right e hi
        rw [Nat.add_mul, Nat.one_mul] at this
        omega
      obtain ⟨l2, sd2, c6, c7, c8, h, q1, q2, q3, q4⟩ := deck_b3 (ns := ns) (c0 := .va (.int c)) (e := e) (k := i) (sd := sd') h6 h7 h8 hle
      have hz : (0 : Int) + (i : Int) = (i : Int) := Int.zero_add _
      rw [hz]
      exact ⟨_, _, tgN_ (by simp [canSet_, h5]), h, _, _, _, _, _, _, rfl, by rw [q1, hl', Nat.add_mul, Nat.one_mul], rfl, q2, q3, q4⟩
  refine ⟨l'.reverse, by rw [List.length_reverse, e3], ?_⟩
  subst e2
  unfold F_law_deck m_law_deck
  rw [bodyF_]
  simp [lstM, gd, setO, setM, canSet_, rdR, range1_, rng1_nat hcc, varM, e1, reverseM, getL, setW, Cell.list?, retO, kpD_map]
end Cm
end KL
/-! KL, part n: texts walked, all, any, join, +=, extend, list, tuple, is of bools. -/
namespace KL
open PySem L2
/-! ### constants of the module -/
structure StrG (mg : Str → Option Value) (x s : Str) : Prop where ex : ∃ t, mg x = some (.str s t)
structure IntG (mg : Str → Option Value) (x : Str) (i : Int) : Prop where ex : ∃ t, mg x = some (.int i t)
section
variable {X : Cx} {L : Lx} {W : WX} {σ : L2.St} {Δ : DEnv} {F H : Hp} {e a b c : Expr} {es : List Expr} {me ma mb mc : DEnv → Res D} {p pos : Pos} {x : Str} {i : Nat}
theorem de_gstr {s : Str} (g : StrG X.mg x s) (hg : Gl X x) (hd : (x == ("__debug__" : Str)) = false) : DE X L W (.Name x pos) (cst (D.str s)) := let ⟨_, h⟩ := g.ex; de_glob (v := .str s) hg h ⟨_, rfl⟩ (fun F => .str s) hd
theorem de_gint {n : Int} (g : IntG X.mg x n) (hg : Gl X x) (hd : (x == ("__debug__" : Str)) = false) : DE X L W (.Name x pos) (cst (D.int n)) := let ⟨_, h⟩ := g.ex; de_glob (v := .int n) hg h ⟨_, rfl⟩ (fun F => .int n) hd
/-! ### what is walked: lists, tuples, texts -/
def signs (z : Str) : List D := z.cps.toList.map fun c => .str ⟨#[c]⟩
theorem itok_str {z : Str} : ItOk L F (Its z) (signs z) := by
  intro i F' H' e1 e2
  refine ⟨fun d hd => ?_, fun hl => ?_⟩
  · unfold signs at hd
    rw [List.getElem?_map] at hd
    cases q : z.cps.toList[i]? with
    | none => rw [q] at hd; cases hd
    | some c =>
      rw [q] at hd; cases hd
      have hi : i < z.cps.size := by have := (List.getElem?_eq_some_iff.mp q).1; simpa using this
      refine ⟨hi, fun x H'' y => ?_⟩
      obtain ⟨rfl, c', h1, rfl⟩ := y
      have : c' = c := by
        have h2 : z.cps.toList[i]? = some c' := by rw [Array.getElem?_toList]; exact h1
        rw [q] at h2; exact (Option.some.inj h2).symm
      subst this
      exact ⟨F', .refl e2, .str _⟩
  · show z.cps.size ≤ i
    simpa [signs] using hl
def seqA (m : DEnv → Res D) : DEnv → Res (List D) := fun Δ => (m Δ).bind fun d Δ1 => match d with
  | .lst ds => .ok ds Δ1
  | .tup ds => .ok ds Δ1
  | .lsx ds => .ok ds Δ1
  | .str z => .ok (signs z) Δ1
  | _ => .stuck
theorem i_any {tg : Expr} (h : DE X L W e me) (hk : L.K = X.K := by rfl) : DI X L W tg e (seqA me) := by
  obtain ⟨te, p1, s1⟩ := h.ex
  refine ⟨_, pi_or (pi_or (pi_list p1) (pi_tup p1)) (pi_str p1), fun σ Δ F H R env w => ?_⟩
  replace w : Want L W σ Δ F H (seqA me Δ) _ := w
  unfold seqA at w
  cases q : me Δ with
  | stuck =>
    rw [q] at w
    exact w.elim
  | ex x Δ' =>
    rw [q] at w
    exact .inr (s1 σ Δ F H _ env (by rw [q]; exact w))
  | ok d Δ1 =>
    rw [q] at w
    cases d with
    | lst ds =>
      refine .inl (.inl (s1 σ Δ F H _ env ?_))
      rw [q]
      intro F1 H1 env1 st1 v r
      obtain ⟨a, vs, rfl, h1, h2⟩ := rep_ref_lst r
      refine ⟨a, rfl, ⟨vs, SqL.of (env1.ex _ _ h1)⟩, w F1 H1 env1 st1 _ fun i F' H' e1 e2 => ⟨fun d hd => ?_, fun hl => ⟨vs, SqL.of ((e1.trans e2) _ _ h1), by rw [h2.1]; exact hl⟩⟩⟩
      obtain ⟨u, hu, ru⟩ := h2.get hd
      refine ⟨⟨vs, u, SqL.of ((e1.trans e2) _ _ h1), hu⟩, fun x H'' y => ?_⟩
      obtain ⟨rfl, y⟩ := y
      have := y vs (SqL.of ((e1.trans e2) _ _ h1))
      rw [hu] at this; cases this
      exact ⟨F', .refl e2, ru.mono e1⟩
    | lsx ds =>
      refine .inl (.inl (s1 σ Δ F H _ env ?_))
      rw [q]
      intro F1 H1 env1 st1 v r
      obtain ⟨a, vs, rfl, h1, h2⟩ := rep_ref_lsx r
      refine ⟨a, rfl, ⟨vs, hk ▸ env1.ex.sl h1⟩, w F1 H1 env1 st1 _ fun i F' H' e1 e2 => ⟨fun d hd => ?_, fun hl => ⟨vs, hk ▸ (e1.trans e2).sl h1, by rw [h2.1]; exact hl⟩⟩⟩
      obtain ⟨u, hu, ru⟩ := h2.get hd
      refine ⟨⟨vs, u, hk ▸ (e1.trans e2).sl h1, hu⟩, fun x H'' y => ?_⟩
      obtain ⟨rfl, y⟩ := y
      have := y vs (hk ▸ (e1.trans e2).sl h1)
      rw [hu] at this; cases this
      exact ⟨F', .refl e2, ru.mono e1⟩
    | tup ds =>
      refine .inl (.inr (s1 σ Δ F H _ env ?_))
      rw [q]
      intro F1 H1 env1 st1 v r
      obtain ⟨a, vs, rfl, h1, h2⟩ := rep_ref_tup r
      refine ⟨a, rfl, ⟨vs, hk ▸ env1.ex.st h1⟩, w F1 H1 env1 st1 _ fun i F' H' e1 e2 => ⟨fun d hd => ?_, fun hl => ⟨vs, hk ▸ (e1.trans e2).st h1, by rw [h2.1]; exact hl⟩⟩⟩
      obtain ⟨u, hu, ru⟩ := h2.get hd
      refine ⟨⟨vs, u, hk ▸ (e1.trans e2).st h1, hu⟩, fun x H'' y => ?_⟩
      obtain ⟨rfl, y⟩ := y
      have := y vs (hk ▸ (e1.trans e2).st h1)
      rw [hu] at this; cases this
      exact ⟨F', .refl e2, ru.mono e1⟩
    | str z =>
      refine .inr (s1 σ Δ F H _ env ?_)
      rw [q]
      intro F1 H1 env1 st1 v r
      cases r
      exact ⟨z, rfl, w F1 H1 env1 st1 _ itok_str⟩
    | _ => exact w.elim
/-! ### all, any -/
def bsOf : List D → Option (List Bool)
  | [] => some []
  | .bl b :: ds => (bsOf ds).map (b :: ·)
  | _ => none
theorem bs_rep : ∀ {ds : List D} {vs : List V} {bs : List Bool}, Reps L.K F vs ds → bsOf ds = some bs → vs = bs.map V.bl
  | [], vs, bs, h, e => by cases e; exact h.nil_inv
  | d :: ds, vs, bs, h, e => by
    obtain ⟨w, r, rfl, h1, h2⟩ := h.cons_inv
    cases d with
    | bl b =>
      cases h1
      unfold bsOf at e
      obtain ⟨bs', e1, rfl⟩ := Option.map_eq_some_iff.mp e
      rw [bs_rep h2 e1]; rfl
    | _ => cases e
def allD : D → Option D
  | .lst ds => (bsOf ds).map fun bs => .bl (bs.all id)
  | _ => none
def anyD : D → Option D
  | .lst ds => (bsOf ds).map fun bs => .bl (bs.any id)
  | _ => none
theorem calls_all : CallS1 L (rAll L.K) allD := by
  intro F H v d z Q ex hf rv q
  unfold allD at hf
  split at hf
  · obtain ⟨bs, e1, rfl⟩ := Option.map_eq_some_iff.mp hf
    obtain ⟨a, vs, rfl, h1, h2⟩ := rv.lst ex
    exact ⟨a, bs, rfl, by rw [← bs_rep h2 e1]; exact SqL.of h1, q _ F H (.refl ex) (.bl _)⟩
  · cases hf
theorem calls_any : CallS1 L (rAny L.K) anyD := by
  intro F H v d z Q ex hf rv q
  unfold anyD at hf
  split at hf
  · obtain ⟨bs, e1, rfl⟩ := Option.map_eq_some_iff.mp hf
    obtain ⟨a, vs, rfl, h1, h2⟩ := rv.lst ex
    exact ⟨a, bs, rfl, by rw [← bs_rep h2 e1]; exact SqL.of h1, q _ F H (.refl ex) (.bl _)⟩
  · cases hf
/-! ### s.join(xs) -/
def ssOf : List D → Option (List Str)
  | [] => some []
  | .str b :: ds => (ssOf ds).map (b :: ·)
  | _ => none
theorem ss_rep : ∀ {ds : List D} {vs : List V} {bs : List Str}, Reps L.K F vs ds → ssOf ds = some bs → vs = bs.map V.str
  | [], vs, bs, h, e => by cases e; exact h.nil_inv
  | d :: ds, vs, bs, h, e => by
    obtain ⟨w, r, rfl, h1, h2⟩ := h.cons_inv
    cases d with
    | str b =>
      cases h1
      unfold ssOf at e
      obtain ⟨bs', e1, rfl⟩ := Option.map_eq_some_iff.mp e
      rw [ss_rep h2 e1]; rfl
    | _ => cases e
def joinD : Str → D → Option D := fun z y => match y with
  | .lst ds => (ssOf ds).bind fun ys => if (ys.map (·.length)).sum + ys.length * z.length ≤ 16777216 then some (.str (Txt.join z ys)) else none
  | .tup ds => (ssOf ds).bind fun ys => if (ys.map (·.length)).sum + ys.length * z.length ≤ 16777216 then some (.str (Txt.join z ys)) else none
  | _ => none
theorem sm_join : SM1 L (fun x xs H Q => ∃ a p, ∃ ys : List Str, x = .str a ∧ xs = [.ref p] ∧ (SqL L.K H p (ys.map V.str) ∨ SqT L.K H p (ys.map V.str)) ∧ (ys.map (·.length)).sum + ys.length * a.length ≤ 16777216 ∧ Q (.str (Txt.join a ys)) H) joinD := by
  intro F H z y dy d Q ex hf ry q
  unfold joinD at hf
  split at hf
  · obtain ⟨ys, e1, e2⟩ := Option.bind_eq_some_iff.mp hf
    split at e2
    · rename_i hl
      cases e2
      obtain ⟨a, vs, rfl, h1, h2⟩ := ry.lst ex
      exact ⟨z, a, ys, rfl, rfl, .inl (by rw [← ss_rep h2 e1]; exact SqL.of h1), hl, q _ F H (.refl ex) (.str _)⟩
    · cases e2
  · obtain ⟨ys, e1, e2⟩ := Option.bind_eq_some_iff.mp hf
    split at e2
    · rename_i hl
      cases e2
      obtain ⟨a, vs, rfl, h1, h2⟩ := ry.tup ex
      exact ⟨z, a, ys, rfl, rfl, .inr (by rw [← ss_rep h2 e1]; exact h1), hl, q _ F H (.refl ex) (.str _)⟩
    · cases e2
  · cases hf
/-! ### list, tuple -/
def tupD : D → Option D
  | .lst ds => some (.tup ds)
  | .tup ds => some (.tup ds)
  | _ => none
theorem calls_tup : CallS1 L (fun xs H Q => ∃ p ys, xs = [.ref p] ∧ ((SqL L.K H p ys ∧ ∀ l, H l = none → Q (.ref l) (upd H l (.tup ys))) ∨ (SqT L.K H p ys ∧ Q (.ref p) H))) tupD := by
  intro F H v d z Q ex hf rv q
  unfold tupD at hf
  split at hf
  · cases hf
    obtain ⟨a, vs, rfl, h1, h2⟩ := rv.lst ex
    refine ⟨a, vs, rfl, .inl ⟨SqL.of h1, fun l hl => ?_⟩⟩
    have g : Gro F H (upd F l (.tup vs)) (upd H l (.tup vs)) := Gro.new ex hl
    exact q _ _ _ g (.tup (SqT.of upd_same) h2.1 fun i v d e1 e2 => (h2.2 i v d e1 e2).mono g.f)
  · cases hf
    obtain ⟨a, vs, rfl, h1, h2⟩ := rv.tup ex
    exact ⟨a, vs, rfl, .inr ⟨h1, q _ F H (.refl ex) rv.ntup⟩⟩
  · cases hf
def listF : D → Option (List D)
  | .lst ds => some ds
  | .tup ds => some ds
  | .lsx ds => some ds
  | _ => none
def callF1 (g : D → Option (List D)) (m : DEnv → Res D) : DEnv → Res (List D) := fun Δ => (m Δ).bind fun d Δ1 => .opt (g d) Δ1
theorem f_list {y : Str} (hg : Gl X y) (hy : y = "list") (hm : X.mg y = none) (hv : bootBuiltins y = some (.type "list")) (hn : y ≠ "__name__") (hdb : (y == ("__debug__" : Str)) = false) (h : DR X L W e me)
    (hst : starEach (e :: []) X.env = (false, eval e X.env) :: starEach [] X.env := by rfl) (hpl : (backTo pos (starEach [] X.env)).any (·.1) = false := by rfl) (hk : L.K = X.K := by rfl) : DF X L W (.Call (.Name y p) [e] [] pos) (callF1 listF me) := by
  obtain ⟨te, p1, s1⟩ := h.ex
  refine ⟨_, pe_callTy call_list_of hg hm hv (pa_cons p1 pa_nil hst) hn hdb hst hpl, fun σ Δ F H Q env w => ?_⟩
  refine s1 σ Δ F H _ env ?_
  replace w : Want L W σ Δ F H ((me Δ).bind fun d Δ1 => .opt (listF d) Δ1) _ := w
  cases q : me Δ with
  | stuck => rw [q] at w; exact w
  | ex x Δ' => rw [q] at w; exact w
  | ok d Δ1 =>
    rw [q] at w
    intro F1 H1 env1 st1 v rv
    replace w : Want L W σ Δ F H (Res.opt (listF d) Δ1) _ := w
    cases q2 : listF d with
    | none => rw [q2] at w; exact w.elim
    | some ds =>
      rw [q2] at w
      have fin : ∀ a vs, v = .ref a → (SqL L.K H1 a vs ∨ SqT L.K H1 a vs) → Reps L.K F1 vs ds → _ := fun a vs ev hs rs => (⟨a, vs, by rw [ev], hk ▸ hs, fun l hl => by
        obtain ⟨a1, a2, a3, a4⟩ := fresh_env (vs := vs) env1 hl
        exact w F1 _ a1 (st1.trans a2) l vs (st1.hn hl) a3 a4 upd_same rs⟩ : ∃ p ys, [v] = [.ref p] ∧ (SqL X.K H1 p ys ∨ SqT X.K H1 p ys) ∧ ∀ l, H1 l = none → Q (.ref l) (upd H1 l (.lst ys)))
      cases d with
      | lst xs => cases q2; obtain ⟨a, vs, ev, h1, h2⟩ := rv.lst env1.ex; exact fin a vs ev (.inl (SqL.of h1)) h2
      | tup xs => cases q2; obtain ⟨a, vs, ev, h1, h2⟩ := rv.tup env1.ex; exact fin a vs ev (.inr h1) h2
      | lsx xs => cases q2; obtain ⟨a, vs, ev, h1, h2⟩ := rv.lsx env1.ex; exact fin a vs ev (.inl h1) h2
      | _ => cases q2
end
end KL
/-! KL, part o: ints of any size, chains, isinstance with many types, min, max, sum, sorted, enumerate, zip, lists repeated. -/
namespace KL
open PySem L2
section
variable {X : Cx} {L : Lx} {W : WX} {σ : L2.St} {Δ Δ1 : DEnv} {F H : Hp} {e a b c : Expr} {es : List Expr} {me ma mb mc : DEnv → Res D} {ta tb tc te : TE} {p pos : Pos} {x : Str} {i : Nat}
/-! ### ints -/
theorem op_fdivG : OpR X (binaryOp .FloorDiv) (rI (fun _ j => j ≠ 0 ∧ j.natAbs < 2 ^ 8000) fun i j => .int (i.fdiv j)) :=
  opI fun _ _ _ _ _ _ _ hc q => PyProof.Rows.floordiv_int hc.1 q (.inl (PyProof.noPylong_of_log2 (Nat.lt_of_lt_of_le (PySem.Flt.log2_lt_of (by decide) hc.2) (by decide))))
def fitB (j : Int) : Bool := decide (j ≠ 0 ∧ j.natAbs < 2 ^ 8000)
def divG : D → D → Option D := intD (fun _ j => fitB j) fun i j => .int (i.fdiv j)
theorem ops_divG : OpS L (rI (fun _ j => j ≠ 0 ∧ j.natAbs < 2 ^ 8000) fun i j => .int (i.fdiv j)) divG := ops_int fun i j h => of_decide_eq_true h
def modG : D → D → Option D := intD (fun _ j => decide (j ≠ 0)) fun i j => .int (i.fmod j)
theorem ops_modG : OpS L (rI (fun _ j => j ≠ 0) fun i j => .int (i.fmod j)) modG := ops_int fun i j h => of_decide_eq_true h
def bitB (i j : Int) : Bool := decide ((Builtin.Int.intBits i : Int) + (Builtin.Int.intBits j : Int) ≤ 134217728)
theorem cmulX_of {i j : Int} (h : bitB i j = true) : CMulX i j := of_decide_eq_true (p := (Builtin.Int.intBits i : Int) + (Builtin.Int.intBits j : Int) ≤ 134217728) h
theorem of_cmulX {i j : Int} (h : CMulX i j) : bitB i j = true := decide_eq_true (p := (Builtin.Int.intBits i : Int) + (Builtin.Int.intBits j : Int) ≤ 134217728) h
def mulB (i j : Int) : Bool := mulC i j || bitB i j
def mulG : D → D → Option D := intD mulB fun i j => .int (i * j)
def rMulG : R2 := fun x y H Q => rI CMul (fun i j => .int (i * j)) x y H Q ∨ rI CMulX (fun i j => .int (i * j)) x y H Q
theorem op_mulG : OpR X (binaryOp .Mult) rMulG := opr_or op_mul op_mulX
theorem ops_mulG : OpS L rMulG mulG := by
  intro F H x y dx dy d Q ex hf rx ry q
  unfold mulG intD at hf
  split at hf
  · split at hf
    · rename_i h; cases hf
      rw [rx.int, ry.int]
      have q' := q _ F H (.refl ex) (.int _)
      rcases Bool.or_eq_true_iff.mp h with h | h
      · refine .inl ⟨_, _, rfl, rfl, ?_, q'⟩
        have h := of_decide_eq_true h
        show (-(2 ^ 64) < _ ∧ _ < 2 ^ 64) ∨ (-(2 ^ 64) < _ ∧ _ < 2 ^ 64)
        omega
      · exact .inr ⟨_, _, rfl, rfl, cmulX_of h, q'⟩
    · cases hf
  · cases hf
theorem divG_int {i j : Int} (h : j ≠ 0) (h2 : j.natAbs < 2 ^ 8000) : divG (.int i) (.int j) = some (.int (i.fdiv j)) := if_pos (decide_eq_true ⟨h, h2⟩)
theorem modG_int {i j : Int} (h : j ≠ 0) : modG (.int i) (.int j) = some (.int (i.fmod j)) := if_pos (decide_eq_true h)
theorem mulG_int {i j : Int} {a b : Nat} (ha : i.natAbs < 2 ^ a) (hb : j.natAbs < 2 ^ b) (h : a + b ≤ 134217728) : mulG (.int i) (.int j) = some (.int (i * j)) :=
  if_pos (Bool.or_eq_true_iff.mpr (.inr (of_cmulX (mulx_ok ha hb h))))
theorem mulG_r {i j : Int} (h : -18446744073709551616 < j ∧ j < 18446744073709551616) : mulG (.int i) (.int j) = some (.int (i * j)) := if_pos (Bool.or_eq_true_iff.mpr (.inl (decide_eq_true (.inr h))))
theorem mulG_l {i j : Int} (h : -18446744073709551616 < i ∧ i < 18446744073709551616) : mulG (.int i) (.int j) = some (.int (i * j)) := if_pos (Bool.or_eq_true_iff.mpr (.inl (decide_eq_true (.inl h))))
/-! ### a < b < c -/
def chainM (f g : D → D → Option D) (ma mb mc : DEnv → Res D) : DEnv → Res D := fun Δ => (ma Δ).bind fun x Δ1 => (mb Δ1).bind fun y Δ2 => match f x y with
  | some (.bl true) => (mc Δ2).bind fun z Δ3 => .opt (g y z) Δ3
  | some (.bl false) => .ok (.bl false) Δ2
  | _ => .stuck
theorem snd_chain {r r' : R2} {f g : D → D → Option D} (hf : OpS L r f) (hg : OpS L r' g) (ha : Snd L W ta ma) (hb : Snd L W tb mb) (hc : Snd L W tc mc) : Snd L W (tChain r r' ta tb tc) (chainM f g ma mb mc) := by
  intro σ Δ F H Q env w
  refine ha σ Δ F H _ env (w.bind.mono fun x Δ1 F1 H1 env1 w1 v rv => ?_)
  refine hb σ Δ1 F1 H1 _ env1 (Want.keep (w1.bind.mono fun y Δ2 F2 H2 env2 w2 s2 u ru => ?_))
  cases q : f x y with
  | none => rw [q] at w2; exact w2.elim
  | some d =>
    rw [q] at w2
    cases d with
    | bl k =>
      refine hf F2 H2 v u x y (.bl k) _ env2.ex q (rv.mono s2.fr).r ru.r fun z F3 H3 gr rz => ?_
      cases rz
      cases k with
      | false => exact ⟨false, rfl, by rw [if_neg (by decide)]; exact w2 F3 H3 (env2.gro gr) (.gro gr) _ (.bl false)⟩
      | true =>
        refine ⟨true, rfl, ?_⟩
        rw [if_pos rfl]
        have w3 : Want L W σ Δ2 F2 H2 ((mc Δ2).bind fun z Δ3 => .opt (g y z) Δ3) _ := w2
        refine hc σ Δ2 F3 H3 _ (env2.gro gr) (Want.keep ((w3.from (.gro gr)).bind.mono fun z Δ3 F4 H4 env4 w4 s4 o ro => ?_))
        cases q2 : g y z with
        | none => rw [q2] at w4; exact w4.elim
        | some d2 =>
          rw [q2] at w4
          exact hg F4 H4 u o y z d2 Q env4.ex q2 ((ru.mono gr.f).mono s4.fr).r ro.r fun t F5 H5 g5 r5 => w4 F5 H5 (env4.gro g5) (.gro g5) t r5
    | _ => exact w2.elim
theorem d_chain {op op' : CmpOp} {r r' : R2} {f g : D → D → Option D} (ho : OpR X (compareOp op) r) (ho' : OpR X (compareOp op') r') (hf : OpS L r f) (hg : OpS L r' g) (ha : DE X L W a ma) (hb : DE X L W b mb) (hc : DE X L W c mc)
    (hm : lastMarks [op, op'] [b, c] = false := by with_unfolding_all rfl) : DE X L W (.Compare a [op, op'] [b, c] pos) (chainM f g ma mb mc) :=
  let ⟨_, p1, s1⟩ := ha.ex
  let ⟨_, p2, s2⟩ := hb.ex
  let ⟨_, p3, s3⟩ := hc.ex
  ⟨_, pe_chain ho ho' p1 p2 p3 hm, snd_chain hf hg s1 s2 s3⟩
theorem t_chain {op op' : CmpOp} {r r' : R2} {f g : D → D → Option D} (ho : OpR X (compareOp op) r) (ho' : OpR X (compareOp op') r') (hf : OpS L r f) (hg : OpS L r' g) (ha : DE X L W a ma) (hb : DE X L W b mb) (hc : DE X L W c mc)
    (hm : lastMarks [op, op'] [b, c] = false := by with_unfolding_all rfl) : DT X L W (.Compare a [op, op'] [b, c] pos) (asB (chainM f g ma mb mc)) :=
  let ⟨_, p1, s1⟩ := ha.ex
  let ⟨_, p2, s2⟩ := hb.ex
  let ⟨_, p3, s3⟩ := hc.ex
  ⟨_, pt_chain ho ho' p1 p2 p3 hm, snd_asB (snd_chain hf hg s1 s2 s3)⟩
/-! ### isinstance with many types -/
structure DTy (X : Cx) (es : List Expr) (Ts : List String) : Prop where ex : ∃ ta, PA X es ta ∧ ∀ σ H (Q : List V → Hp → Prop), Q (Ts.map V.ty) H → ta σ H Q
theorem ty_nil : DTy X [] [] := ⟨_, pa_nil, fun σ H Q q => q⟩
theorem ty_cons {T : String} {Ts : List String} {t : Str} {pt : Pos} (hg : Gl X t) (hm : X.mg t = none) (hv : bootBuiltins t = some (.type T)) (hn : t ≠ "__name__") (hd : (t == ("__debug__" : Str)) = false) (h : DTy X es Ts)
    (hst : starEach (Expr.Name t pt :: es) X.env = (false, eval (.Name t pt) X.env) :: starEach es X.env := by rfl) : DTy X (.Name t pt :: es) (T :: Ts) :=
  let ⟨_, p1, s1⟩ := h.ex
  ⟨_, pa_cons (pe_bltn (v := .ty T) hg hm hv rfl hn hd) p1 hst, fun σ H Q q => s1 σ H _ q⟩
def kitsB (t : String) : List String → Option Bool
  | [] => some false
  | c :: r => match kitB t c with
    | some true => some true
    | some false => kitsB t r
    | none => none
theorem kits_ok {K : PySem.W.Frag} {t : String} : ∀ {Ts : List String} {b : Bool}, kitsB t Ts = some b → PySem.W.kitAny K (.type t) (Ts.map Value.type) = some b
  | [], b, h => h
  | c :: r, b, h => by
    unfold kitsB at h
    show (match PySem.W.kitOne K (.type t) (.type c) with | some true => some true | some false => PySem.W.kitAny K (.type t) (r.map Value.type) | none => none) = some b
    cases q : kitB t c with
    | none => rw [q] at h; cases h
    | some k =>
      rw [q] at h
      rw [kit_ty q]
      cases k with
      | true => exact h
      | false => exact kits_ok h
theorem tys_clsV : ∀ {Ts : List String}, Paired ClsV (Ts.map V.ty) (Ts.map Value.type)
  | [] => .nil
  | T :: Ts => .cons (.ty T) tys_clsV
def isisB (Ts : List String) (d : D) : Option Bool := (tyD d).bind fun t => kitsB t Ts
def isisM (Ts : List String) (m : DEnv → Res D) : DEnv → Res D := call1 (fun d => (isisB Ts d).map .bl) m
theorem d_isis {Ts : List String} {k : Nat} {pt : Pos} (hg : Gl X x) (hm : X.mg x = none) (hv : bootBuiltins x = some (.builtin "isinstance")) (hn : x ≠ "__name__") (hdb : (x == ("__debug__" : Str)) = false) (hT : DTy X es Ts) (hl : decide (Ts.length ≤ 16777216) = true) (h : DE X L W e me)
    (hst : starEach (e :: [.Tuple es k pt]) X.env = (false, eval e X.env) :: starEach [.Tuple es k pt] X.env := by rfl) (hst2 : starEach (Expr.Tuple es k pt :: []) X.env = (false, eval (.Tuple es k pt) X.env) :: starEach [] X.env := by rfl)
    (hpl : (backTo pos (starEach [.Tuple es k pt] X.env)).any (·.1) = false := by rfl) (hk : L.K = X.K := by rfl) : DE X L W (.Call (.Name x p) [e, .Tuple es k pt] [] pos) (isisM Ts me) := by
  obtain ⟨_, p1, s1⟩ := h.ex
  obtain ⟨_, p2, s2⟩ := hT.ex
  refine ⟨_, pe_callB call_isiT hg hm hv (pa_cons p1 (pa_cons (pe_tup p2) pa_nil hst2) hst) hn hdb hst hpl, fun σ Δ F H Q env w => ?_⟩
  refine s1 σ Δ F H _ env (w.bind.mono fun d Δ1 F1 H1 env1 w1 v rv => ?_)
  replace w1 : Want L W σ Δ1 F1 H1 (Res.opt ((isisB Ts d).map D.bl) Δ1) _ := w1
  cases q : isisB Ts d with
  | none => rw [q] at w1; exact w1.elim
  | some kb =>
    rw [q] at w1
    obtain ⟨t1, h1, h2⟩ := Option.bind_eq_some_iff.mp q
    refine s2 σ H1 _ ⟨by rw [List.length_map, line_eq]; exact of_decide_eq_true hl, fun pp hp => ?_⟩
    have ex2 : Ex H1 (upd H1 pp (.tup (Ts.map V.ty))) := Ex.new hp
    have ty : TyX X.K (upd H1 pp (.tup (Ts.map V.ty))) v (.type t1) := hk ▸ tyx_of (F := F1) (L := L) (env1.ex.trans ex2) h1 rv.r
    exact ⟨v, pp, Ts.map V.ty, .type t1, Ts.map Value.type, kb, rfl, upd_same, tys_clsV, ty, kits_ok h2,
      w1 F1 _ (env1.grow ex2 (Ex.refl F1) (env1.ex.trans ex2) fun b o h => .inl h) (Step.grow ex2 (Ex.refl F1) fun b o h => .inl h) _ (.bl kb)⟩
end
end KL
/-! KL, part p: min, max, sum, sorted over data that are alike. -/
namespace KL
open PySem L2
def pyOf (d : D) : PyData := (toPy d).getD .none
def pyLt (x y : D) : Bool := PySem.W.dataLt (pyOf x) (pyOf y)
/-- all are data, alike, none is None, not deep -/
def okL (ds : List D) : Bool := ds.all fun d => (toPy d).isSome && notNone (pyOf d) && decide ((pyOf d).depth ≤ 60) && ds.all fun e => PySem.W.alike (pyOf d) (pyOf e)
theorem okL_py {ds : List D} (h : okL ds = true) {d : D} (hd : d ∈ ds) : toPy d = some (pyOf d) ∧ pyOf d ≠ .none ∧ (pyOf d).depth ≤ 60 ∧ ∀ e ∈ ds, PySem.W.alike (pyOf d) (pyOf e) = true := by
  have h1 := List.all_eq_true.mp h d hd
  simp only [Bool.and_eq_true] at h1
  obtain ⟨⟨⟨h2, h3⟩, h4⟩, h5⟩ := h1
  refine ⟨?_, fun z => ?_, of_decide_eq_true h4, fun e he => List.all_eq_true.mp h5 e he⟩
  · obtain ⟨p, hp⟩ := Option.isSome_iff_exists.mp h2
    unfold pyOf; rw [hp]; rfl
  · rw [z] at h3; cases h3
theorem toPys_map : ∀ {ds : List D}, (∀ d ∈ ds, toPy d = some (pyOf d)) → toPys ds = some (ds.map pyOf)
  | [], _ => by simp [toPys]
  | d :: ds, h => by
    rw [toPys, h d (by simp), Option.bind_some, toPys_map fun e he => h e (by simp [he])]; rfl
theorem depthAll_le {n : Nat} : ∀ {ps : List PyData}, (∀ p ∈ ps, p.depth ≤ n) → PyData.depthAll ps ≤ n
  | [], _ => by simp [PyData.depthAll]
  | p :: ps, h => by
    rw [PyData.depthAll]
    exact Nat.max_le.mpr ⟨h p (by simp), depthAll_le fun q hq => h q (by simp [hq])⟩
theorem okL_alike {ds : List D} (h : okL ds = true) : PySem.W.AlikeAll (ds.map pyOf) := by
  refine ⟨fun x hx y hy => ?_, fun x hx => ?_⟩
  · obtain ⟨d, hd, rfl⟩ := List.mem_map.mp hx
    obtain ⟨e, he, rfl⟩ := List.mem_map.mp hy
    exact (okL_py h hd).2.2.2 e he
  · obtain ⟨d, hd, rfl⟩ := List.mem_map.mp hx
    exact (okL_py h hd).2.1
theorem okL_depth {ds : List D} (h : okL ds = true) : PyData.depthAll (ds.map pyOf) ≤ 60 := depthAll_le fun p hp => by
  obtain ⟨d, hd, rfl⟩ := List.mem_map.mp hp
  exact (okL_py h hd).2.2.1
theorem getD_map_pyOf (ds : List D) (i : Nat) : (ds.map pyOf).getD i .none = pyOf (ds.getD i .non) := by
  rw [List.getD_eq_getElem?_getD, List.getD_eq_getElem?_getD, List.getElem?_map]
  cases ds[i]? with
  | none => simp [pyOf, toPy]
  | some d => rfl
section
variable {X : Cx} {L : Lx} {W : WX} {F H : Hp}
def btMin (ps : List PyData) : Nat → Nat → Bool := fun i j => PySem.W.dataLt (ps.getD i .none) (ps.getD j .none)
def btMax (ps : List PyData) : Nat → Nat → Bool := fun i j => PySem.W.dataLt (ps.getD j .none) (ps.getD i .none)
def rBest (K : PySem.W.Frag) (bt : List PyData → Nat → Nat → Bool) : List V → Hp → VK → Prop := fun xs H Q => ∃ (a : Addr) (vs : List V) (ps : List PyData), xs = [.ref a] ∧ (SqL K H a vs ∨ SqT K H a vs) ∧ DpAll K H vs ps ∧ 0 < ps.length ∧ PySem.W.AlikeAll ps ∧ PyData.depthAll ps ≤ 60 ∧
  ∀ v, vs[PySem.argBest (bt ps) (ps.length - 1)]? = some v → Q v H
open PySem.W PyProof.Rows in
theorem vals_at {vs : List V} {its : List Value} (r : Vals vs its) {i : Nat} {u : Value} (h : its[i]? = some u) : ∃ v, vs[i]? = some v ∧ RelV v u := by
  have hi : i < its.length := (List.getElem?_eq_some_iff.mp h).1
  have hl := r.length
  obtain ⟨u', h1, h2⟩ := r.get (i := i) (x := vs[i]'(by omega)) (List.getElem?_eq_getElem (by omega))
  rw [h] at h1; cases h1
  exact ⟨_, List.getElem?_eq_getElem (by omega), h2⟩
open PySem.W PyProof.Rows in
theorem call_minB (hc : X.calm = true) (hu : X.A.units + 64 < cLine) : CallR X (.builtin "min") (rBest X.K btMin) := by
  intro pins s σ H xs us Q I r h
  obtain ⟨a, vs, ps, rfl, hs, hp, hn, ha, hd, q⟩ := h
  rw [Vals.ref1 r]
  have fin : ∀ (its : List Value) (rv : Vals vs its) (as : List Addr), ReadsAll s.heap its.toArray.toList ps as → ∀ (i : Nat) v h' tk, i = argBest (btMin ps) (ps.length - 1) → its.toArray[i]? = some v → (∀ b o, s.heap.get? b = some o → h'.get? b = some o) → EP X pins σ Q v { s with heap := h', toks := tk } := fun its rv as hr i v h' tk hi hv hk => by
    obtain ⟨x, h1, h2⟩ := vals_at rv (i := i) (u := v) (by simpa using hv)
    exact ⟨x, H, I.kept hk, h2, q x (by rw [← hi]; exact h1)⟩
  rcases hs with hs | hs
  · obtain ⟨its, rv, hl, _⟩ := I.list hs
    obtain ⟨as, hr0⟩ := Dp.readsAll I ps vs its hp rv
    have hr : ReadsAll s.heap its.toArray.toList ps as := hr0
    have hn' : its.toArray.size = ps.length := readsAll_len hr
    refine call_min_walkH (iter_listW (A := X.A.in1) (I.ok.hd hc) hl.isList fun s₂ e W st hfp hw hk => ?_)
    refine ⟨_, _, _, _, _, _, _, s.heap, _, rfl, W, st, hfp, by omega, hw, hk, cmpIn_lt (A := X.A.in1) hr ha (by show X.A.units + 1 + _ < _; omega), fun v s' hP m => ?_⟩
    obtain ⟨h', tk, rfl, hk'⟩ := moved_old e rfl m
    exact fin its rv as hr _ v h' tk (by rw [hn']; rfl) hP hk'
  · obtain ⟨its, rv, hl, _⟩ := I.tuple hs
    obtain ⟨as, hr0⟩ := Dp.readsAll I ps vs its hp rv
    have hr : ReadsAll s.heap its.toArray.toList ps as := hr0
    have hn' : its.toArray.size = ps.length := readsAll_len hr
    refine call_min_walkH (iter_tupleW (A := X.A.in1) (I.ok.hd hc) (show s.heap.IsTuple a its.toArray from hl) fun s₂ e W st hfp hw hk => ?_)
    refine ⟨_, _, _, _, _, _, _, s.heap, _, rfl, W, st, hfp, by omega, hw, hk, cmpIn_lt (A := X.A.in1) hr ha (by show X.A.units + 1 + _ < _; omega), fun v s' hP m => ?_⟩
    obtain ⟨h', tk, rfl, hk'⟩ := moved_old e rfl m
    exact fin its rv as hr _ v h' tk (by rw [hn']; rfl) hP hk'
open PySem.W PyProof.Rows in
theorem call_maxB (hc : X.calm = true) (hu : X.A.units + 64 < cLine) : CallR X (.builtin "max") (rBest X.K btMax) := by
  intro pins s σ H xs us Q I r h
  obtain ⟨a, vs, ps, rfl, hs, hp, hn, ha, hd, q⟩ := h
  rw [Vals.ref1 r]
  have fin : ∀ (its : List Value) (rv : Vals vs its) (as : List Addr), ReadsAll s.heap its.toArray.toList ps as → ∀ (i : Nat) v h' tk, i = argBest (btMax ps) (ps.length - 1) → its.toArray[i]? = some v → (∀ b o, s.heap.get? b = some o → h'.get? b = some o) → EP X pins σ Q v { s with heap := h', toks := tk } := fun its rv as hr i v h' tk hi hv hk => by
    obtain ⟨x, h1, h2⟩ := vals_at rv (i := i) (u := v) (by simpa using hv)
    exact ⟨x, H, I.kept hk, h2, q x (by rw [← hi]; exact h1)⟩
  rcases hs with hs | hs
  · obtain ⟨its, rv, hl, _⟩ := I.list hs
    obtain ⟨as, hr0⟩ := Dp.readsAll I ps vs its hp rv
    have hr : ReadsAll s.heap its.toArray.toList ps as := hr0
    have hn' : its.toArray.size = ps.length := readsAll_len hr
    refine call_max_walkH (iter_listW (A := X.A.in1) (I.ok.hd hc) hl.isList fun s₂ e W st hfp hw hk => ?_)
    refine ⟨_, _, _, _, _, _, _, s.heap, _, rfl, W, st, hfp, by omega, hw, hk, cmpIn_gt (A := X.A.in1) hr ha (by show X.A.units + 1 + _ < _; omega), fun v s' hP m => ?_⟩
    obtain ⟨h', tk, rfl, hk'⟩ := moved_old e rfl m
    exact fin its rv as hr _ v h' tk (by rw [hn']; rfl) hP hk'
  · obtain ⟨its, rv, hl, _⟩ := I.tuple hs
    obtain ⟨as, hr0⟩ := Dp.readsAll I ps vs its hp rv
    have hr : ReadsAll s.heap its.toArray.toList ps as := hr0
    have hn' : its.toArray.size = ps.length := readsAll_len hr
    refine call_max_walkH (iter_tupleW (A := X.A.in1) (I.ok.hd hc) (show s.heap.IsTuple a its.toArray from hl) fun s₂ e W st hfp hw hk => ?_)
    refine ⟨_, _, _, _, _, _, _, s.heap, _, rfl, W, st, hfp, by omega, hw, hk, cmpIn_gt (A := X.A.in1) hr ha (by show X.A.units + 1 + _ < _; omega), fun v s' hP m => ?_⟩
    obtain ⟨h', tk, rfl, hk'⟩ := moved_old e rfl m
    exact fin its rv as hr _ v h' tk (by rw [hn']; rfl) hP hk'
/-! the readings -/
def bestL (f : D → D → Bool) : List D → Option D
  | [] => none
  | d :: ds => if okL (d :: ds) = true then some (ds.foldl (fun a y => if f y a then y else a) d) else none
def bestD (f : D → D → Bool) : D → Option D
  | .lst ds => bestL f ds
  | .tup ds => bestL f ds
  | _ => none
def minD : D → Option D := bestD pyLt
def maxD : D → Option D := bestD fun x y => pyLt y x
theorem best_ok {f : D → D → Bool} {bt : List PyData → Nat → Nat → Bool} (hb : ∀ (ds : List D) i j, bt (ds.map pyOf) i j = f (ds.getD i .non) (ds.getD j .non)) {ds : List D} {z : D} (h : bestL f ds = some z) :
    okL ds = true ∧ 0 < ds.length ∧ ds[PySem.argBest (bt (ds.map pyOf)) ((ds.map pyOf).length - 1)]? = some z := by
  cases ds with
  | nil => cases h
  | cons d ds =>
    by_cases hk : okL (d :: ds) = true
    · have h : (if okL (d :: ds) = true then some (ds.foldl (fun a y => if f y a then y else a) d) else none) = some z := h
      rw [if_pos hk] at h
      cases h
      refine ⟨hk, by simp, ?_⟩
      have hbt : bt ((d :: ds).map pyOf) = fun i j => f ((d :: ds).getD i .non) ((d :: ds).getD j .non) := funext fun i => funext fun j => hb (d :: ds) i j
      obtain ⟨h1, h2⟩ := PySem.W.argBest_fold f .non d ds ds.length (Nat.le_refl _)
      rw [List.take_length] at h2
      have hl : ((d :: ds).map pyOf).length - 1 = ds.length := by simp
      rw [hl, hbt, ← h2, List.getD_eq_getElem?_getD]
      rw [List.getElem?_eq_getElem (by simp only [List.length_cons]; omega)]
      rfl
    · have h : (if okL (d :: ds) = true then some (ds.foldl (fun a y => if f y a then y else a) d) else none) = some z := h
      rw [if_neg hk] at h
      cases h
theorem calls_best {f : D → D → Bool} {bt : List PyData → Nat → Nat → Bool} (hb : ∀ (ds : List D) i j, bt (ds.map pyOf) i j = f (ds.getD i .non) (ds.getD j .non)) : CallS1 L (rBest L.K bt) (bestD f) := by
  intro F H v d z Q ex hf rv q
  have fin : ∀ (a : Addr) (vs : List V) (ds : List D), v = .ref a → (SqL L.K H a vs ∨ SqT L.K H a vs) → Reps L.K F vs ds → bestL f ds = some z → rBest L.K bt [v] H Q := fun a vs ds ev hs rs hz => by
    obtain ⟨h1, h2, h3⟩ := best_ok hb hz
    have hp : toPys ds = some (ds.map pyOf) := toPys_map fun d hd => (okL_py h1 hd).1
    refine ⟨a, vs, ds.map pyOf, by rw [ev], hs, toPys_dp ex ds vs _ rs hp, by rw [List.length_map]; exact h2, okL_alike h1, okL_depth h1, fun u hu => ?_⟩
    exact q u F H (.refl ex) (rs.2 _ u z hu h3)
  cases d with
  | lst ds => obtain ⟨a, vs, ev, h1, h2⟩ := rv.lst ex; exact fin a vs ds ev (.inl (SqL.of h1)) h2 hf
  | tup ds => obtain ⟨a, vs, ev, h1, h2⟩ := rv.tup ex; exact fin a vs ds ev (.inr h1) h2 hf
  | _ => cases hf
theorem calls_min : CallS1 L (rBest L.K btMin) minD := calls_best fun ds i j => by
  unfold btMin pyLt; rw [getD_map_pyOf, getD_map_pyOf]
theorem calls_max : CallS1 L (rBest L.K btMax) maxD := calls_best fun ds i j => by
  unfold btMax pyLt; rw [getD_map_pyOf, getD_map_pyOf]
/-! ### sum -/
def isOf : List D → Option (List Int)
  | [] => some []
  | .int b :: ds => (isOf ds).map (b :: ·)
  | _ => none
theorem is_rep : ∀ {ds : List D} {vs : List V} {bs : List Int}, Reps L.K F vs ds → isOf ds = some bs → vs = bs.map V.int
  | [], vs, bs, h, e => by cases e; exact h.nil_inv
  | d :: ds, vs, bs, h, e => by
    obtain ⟨w, r, rfl, h1, h2⟩ := h.cons_inv
    cases d with
    | int b =>
      cases h1
      unfold isOf at e
      obtain ⟨bs', e1, rfl⟩ := Option.map_eq_some_iff.mp e
      rw [is_rep h2 e1]; rfl
    | _ => cases e
def sumD : D → Option D
  | .lst ds => (isOf ds).map fun ns => .int ns.sum
  | _ => none
theorem calls_sum : CallS1 L (rSum L.K) sumD := by
  intro F H v d z Q ex hf rv q
  unfold sumD at hf
  split at hf
  · obtain ⟨bs, e1, rfl⟩ := Option.map_eq_some_iff.mp hf
    obtain ⟨a, vs, rfl, h1, h2⟩ := rv.lst ex
    exact ⟨a, bs, rfl, by rw [← is_rep h2 e1]; exact SqL.of h1, q _ F H (.refl ex) (.int _)⟩
  · cases hf
theorem isOf_map (ns : List Int) : isOf (ns.map D.int) = some ns := by
  induction ns with
  | nil => rfl
  | cons n ns ih => rw [List.map_cons, isOf, ih]; rfl
end
end KL
/-! KL, part q: enumerate and zip of lists, tuples, texts, in any mixture. -/
namespace KL
section
open PySem PySem.Spec PyProof.Rows L2
/-- what is walked -/
inductive Md where | l (a : Addr) | t (a : Addr) | s (x : Str)
def Md.v : Md → V
  | .l a => .ref a
  | .t a => .ref a
  | .s x => .str x
def Md.ads : Md → List Addr
  | .l a => [a]
  | .t a => [a]
  | .s _ => []
def Md.k : Md → String
  | .l _ => "list_iterator"
  | .t _ => "tuple_iterator"
  | .s x => strIterType x
def Md.ok (K : PySem.W.Frag) (H : Hp) (xs : List V) : Md → Prop
  | .l a => SqL K H a xs
  | .t a => SqT K H a xs
  | .s x => xs = x.cps.toList.map fun c => V.str ⟨#[c]⟩
def ItAt (h : Heap) (it : Addr) (k : String) (u : Value) (i : Nat) : Prop := ∃ o, h.get? it = some o ∧ o.cls = .type k ∧ o.data = .fields #[u, .int i 0]
theorem ItAt.at' {h h' : Heap} {it : Addr} {k : String} {u : Value} {i : Nat} (s : ItAt h it k u i) (e : ∀ o, h.get? it = some o → h'.get? it = some o) : ItAt h' it k u i := let ⟨o, a, b, c⟩ := s; ⟨o, e o a, b, c⟩
theorem ItAt.lt {h : Heap} {it : Addr} {k : String} {u : Value} {i : Nat} (s : ItAt h it k u i) : it < h.objs.size := let ⟨_, a, _⟩ := s; Heap.lt_size a
theorem draws_tuple {prog : Program} {w : World} {A : Around} (hh : A.handled = none) (it l : Addr) (hne : l ≠ it) (items : Array Value) :
    Draws prog w A it [it, l] items.size (fun i v => items[i]? = some v) (fun i h => h.IsTupleIter it l i ∧ h.IsTuple l items) where
  live := fun _ _ st => let ⟨o, ho, _⟩ := st.1; ⟨o, ho⟩
  frame := fun _ _ _ st hk => ⟨st.1.at fun o e => hk it (by simp) o e, let ⟨o, a, r⟩ := st.2; ⟨o, hk l (by simp) o a, r⟩⟩
  item := fun i s Q E hi st hQ => by
    refine RZ.nextOf_tuple_item st.1 st.2 (x := items[i]) (by simp [hi]) fun h' hit' hs' => ?_
    exact hQ _ h' s.toks (by simp [hi]) ⟨hit', st.2.extBut hs'.extBut hne⟩ hs'
  done := fun s Q E st hE => RZ.nextOf_tuple_end hh st.1 st.2 (by simp) hE
/-- u is walked so -/
structure Src (prog : Program) (w : World) (m : Md) (u : Value) (n : Nat) (Pv : Nat → Value → Prop) (Bs : Heap → Prop) : Prop where
  draws : ∀ (A : Around), A.handled = none → ∀ it, it ∉ m.ads → Draws prog w A it (it :: m.ads) n Pv fun i h => ItAt h it m.k u i ∧ Bs h
  keep : ∀ h h', Bs h → (∀ b o, h.get? b = some o → h'.get? b = some o) → Bs h'
  iter : ∀ (A : Around) (E : Value → Shared → Prop) (s : Shared) (Q : Value → Shared → Prop), Bs s.heap → Q (.ref s.heap.objs.size) { s with heap := s.heap.push { cls := .type m.k, data := .fields #[u, .int 0 0] } } → wpAny (model prog w) A (pyIter u) Q E s
section
variable {X : Cx} {pins : List (Addr × Obj)} {s : Shared} {σ : L2.St} {H : Hp}
theorem src_of (I : Inv X pins σ H s) {m : Md} {xs : List V} {u : Value} (h : m.ok X.K H xs) (r : RelV m.v u) :
    ∃ Pv Bs, Src X.prog X.w m u xs.length Pv Bs ∧ Bs s.heap ∧ (∀ i y, Pv i y → ∃ x, xs[i]? = some x ∧ RelV x y) ∧ ∀ b ∈ m.ads, b < s.heap.objs.size := by
  have at_ : ∀ {its : List Value} (rv : Vals xs its) i y, its.toArray[i]? = some y → ∃ x, xs[i]? = some x ∧ RelV x y := fun rv i y hy => vals_at rv (by simpa using hy)
  cases m with
  | l a =>
    cases r
    obtain ⟨its, rv, p, _⟩ := I.list h
    refine ⟨fun i v => its.toArray[i]? = some v, fun h => h.IsList a its.toArray, ⟨fun A hh it hi => ?_, fun h h' b k => let ⟨o, x, y⟩ := b; ⟨o, k _ _ x, y⟩, fun A E s Q b q => wpAny_pyIter_list b q⟩, p.isList, fun i y hy => at_ rv i y hy, fun b hb => ?_⟩
    · have hne : a ≠ it := fun z => hi (by rw [z]; exact List.mem_singleton.mpr rfl)
      have e : its.toArray.size = xs.length := by simp [rv.length]
      have := Draws.list (prog := X.prog) (w := X.w) hh it a hne its.toArray
      rw [e] at this; exact this
    · rw [List.mem_singleton.mp hb]; exact p.lt
  | t a =>
    cases r
    obtain ⟨its, rv, p, _⟩ := I.tuple h
    refine ⟨fun i v => its.toArray[i]? = some v, fun h => h.IsTuple a its.toArray, ⟨fun A hh it hi => ?_, fun h h' b k => let ⟨o, x, y⟩ := b; ⟨o, k _ _ x, y⟩, fun A E s Q b q => wpAny_pyIter_tuple b q⟩, (show s.heap.IsTuple a its.toArray from p), fun i y hy => at_ rv i y hy, fun b hb => ?_⟩
    · have hne : a ≠ it := fun z => hi (by rw [z]; exact List.mem_singleton.mpr rfl)
      have e : its.toArray.size = xs.length := by simp [rv.length]
      have := draws_tuple (prog := X.prog) (w := X.w) hh it a hne its.toArray
      rw [e] at this; exact this
    · rw [List.mem_singleton.mp hb]
      obtain ⟨o, ho, _⟩ := (show s.heap.IsTuple a its.toArray from p)
      exact Heap.lt_size ho
  | s x =>
    obtain ⟨t, rfl⟩ := r
    have hx : xs = x.cps.toList.map fun c => V.str ⟨#[c]⟩ := h
    refine ⟨fun i v => ∃ c u, x.cps[i]? = some c ∧ v = .str ⟨#[c]⟩ u, fun _ => True, ⟨fun A hh it hi => ?_, fun _ _ _ _ => trivial, fun A E s Q b q => wpAny_pyIter_strU q⟩, trivial, fun i y hy => ?_, fun b hb => by cases hb⟩
    · have e : x.cps.size = xs.length := by rw [hx]; simp
      have fix : ∀ {k : String}, k = strIterType x → Draws X.prog X.w A it [it] x.cps.size (fun i v => ∃ c u, x.cps[i]? = some c ∧ v = .str ⟨#[c]⟩ u) (fun i h => h.IsStrIter it k x t i) → Draws X.prog X.w A it (it :: (Md.s x).ads) xs.length (fun i v => ∃ c u, x.cps[i]? = some c ∧ v = .str ⟨#[c]⟩ u) (fun i h => ItAt h it (Md.s x).k (.str x t) i ∧ True) := by
        rintro k rfl D
        rw [← e]
        exact ⟨fun i h st => D.live i h st.1, fun i h h' st k => ⟨D.frame i h h' st.1 k, trivial⟩, fun i s Q E hi st q => D.item i s Q E hi st.1 fun y h' tk p q1 q2 => q y h' tk p ⟨q1, trivial⟩ q2, fun s Q E st q => D.done s Q E st.1 q⟩
      cases ha : x.cps.all (· < 128)
      · exact fix (by simp [strIterType, ha]) (Draws.strWide hh it x t)
      · exact fix (by simp [strIterType, ha]) (Draws.strAscii hh it x t)
    · obtain ⟨c, u, h1, rfl⟩ := hy
      refine ⟨.str ⟨#[c]⟩, ?_, ⟨u, rfl⟩⟩
      rw [hx, List.getElem?_map, Array.getElem?_toList, h1]; rfl
theorem md_inj (I : Inv X pins σ H s) {m : Md} {xs ys : List V} (h : m.ok X.K H xs) (h' : m.ok X.K H ys) : xs = ys := by
  cases m with
  | l a => exact I.list_inj h h'
  | t a => exact I.tuple_inj h h'
  | s x => exact Eq.trans h (Eq.symm h')
end
/-! ### enumerate -/
def IteG (K : PySem.W.Frag) (m : Md) (n : Nat) : It :=
  ⟨fun i H => ∃ (xs : List V) (x : V), m.ok K H xs ∧ xs.length = n ∧ xs[i]? = some x, fun i H v H' => ∃ T x, v = .ref T ∧ H T = none ∧ H' = upd H T (.tup [.int (i : Nat), x]) ∧ ∀ xs, m.ok K H xs → xs[i]? = some x, fun i H => ∃ xs : List V, m.ok K H xs ∧ xs.length = n ∧ n ≤ i⟩
theorem turn_enumG {P : Program} {w : World} {K : PySem.W.Frag} {elts : List Expr} {kk : Nat} {tpos : Pos} (m : Md) (n : Nat) (u : Value) (hr : RelV m.v u) (e it : Addr) (hne : e ≠ it) (hia : it ∉ m.ads) (hea : e ∉ m.ads) :
    Turn P w K (.Tuple elts kk tpos) (IteG K m n) [e, it] e (fun i h => (∃ old, IsEnum h e it ((i : Nat) : Int) old) ∧ ItAt h it m.k u i ∧ i ≤ n) where
  mem := by simp
  obj := fun i h st b hb => by
    obtain ⟨⟨old, he⟩, ⟨o, ho, hc, hd⟩, _⟩ := st
    have e' : b = e ∨ b = it := by simpa using hb
    rcases e' with z | z
    · rw [z]; exact ⟨_, he, fun v q => nomatch q⟩
    · rw [z]; exact ⟨o, ho, fun v q => by rw [hd] at q; cases q⟩
  keep := fun i h h' st k => let ⟨⟨old, he⟩, hi, z⟩ := st; ⟨⟨old, k e (by simp) _ he⟩, hi.at' fun o q => k it (by simp) o q, z⟩
  item := by
    intro X hP hw hK hc i pins s σ H E I hf st hg
    subst hP hw hK
    obtain ⟨⟨old, he⟩, hit, _⟩ := st
    obtain ⟨xs, x, hq, hn, hx⟩ := hg
    obtain ⟨Pv, Bs, S, bs, pv, lt⟩ := src_of I hq hr
    have hi : i < xs.length := (List.getElem?_eq_some_iff.mp hx).1
    have hel : e < s.heap.objs.size := Heap.lt_size he
    have hil : it < s.heap.objs.size := hit.lt
    refine wpAny_pyNext_enum_itemD (S.draws X.A.in1 (I.ok.hd hc) it hia) he ⟨hit, bs⟩ hi hne (by rw [List.mem_cons, not_or]; exact ⟨hne, hea⟩) fun y h' tk py ho hit' hT hsz hk => ?_
    obtain ⟨x', hx', ru⟩ := pv i y py
    rw [hx] at hx'; cases hx'
    refine ⟨_, rfl, wpAny_letOwnedTupleGo_enum (s := { s with heap := h', toks := tk + 1 }) ho fun h'' he' sb => ?_⟩
    have hT2 : h''.get? s.heap.objs.size = some { cls := .type "tuple", data := .seq #[.int i tk, y] } := (sb.2 _ (Nat.ne_of_gt hel)).trans hT
    have new : ObjOk X.prog X.w (upd H s.heap.objs.size (.tup [.int (i : Nat), x])) h'' s.heap.objs.size (.tup [.int (i : Nat), x]) :=
      ⟨by show 2 ≤ sizeLine; decide, [.int i tk, y], .cons ⟨_, rfl⟩ (.cons ru .nil), ⟨_, hT2, rfl, _, rfl⟩⟩
    have I1 : Inv X pins σ (upd H s.heap.objs.size (.tup [.int (i : Nat), x])) { s with heap := h'', toks := tk + 1 } :=
      I.turnedNew (ch := [e, it]) (fun b ob hb q => (sb.2 b (fun z => hb (by simp [z]))).trans (hk b ob (fun z => hb (by simp [z])) (fun z => hb (by simp [z])) q)) hf (Nat.le_refl _) new
    refine ⟨.ref s.heap.objs.size, _, I1, rfl, ⟨_, x, rfl, I.hok.fresh (Nat.le_refl _), rfl, fun ys hy => by rw [md_inj I hy hq]; exact hx⟩, ⟨⟨y, ?_⟩, hit'.1.at' fun o q => (sb.2 it (Ne.symm hne)).trans q, by omega⟩, fun b hb => ?_⟩
    · have e1 : ((i + 1 : Nat) : Int) = (i : Int) + 1 := by omega
      rw [e1]; exact he'
    · have hb' : b < s.heap.objs.size := by
        have e' : b = e ∨ b = it := by simpa using hb
        rcases e' with z | z
        · rw [z]; exact hel
        · rw [z]; exact hil
      rw [upd_ne (Nat.ne_of_lt hb')]
      exact (hf b hb).1
  done := by
    intro X hP hw hK hc i pins s σ H E I hf st hg
    subst hP hw hK
    obtain ⟨⟨old, he⟩, hit, hle⟩ := st
    obtain ⟨xs, hq, hn, hx⟩ := hg
    obtain ⟨Pv, Bs, S, bs, pv, lt⟩ := src_of I hq hr
    have hi : i = xs.length := by omega
    obtain ⟨f0, f1, f2, f3, f4, f5⟩ := hf it (by simp)
    refine wpAny_pyNext_enum_endD (S.draws X.A.in1 (I.ok.hd hc) it hia) he ⟨by rw [← hi]; exact hit, bs⟩ fun h' eb => ⟨rfl, I.turned (t' := s.toks) (fun b o hb q => eb b o hb q) f0 f1 f3 f4 f5⟩
  self := fun A i s Q E st h => let ⟨⟨_, he⟩, _⟩ := st; wpAny_pyIter_enum he h
/-- enumerate(tuple) -/
theorem meets_enumT (l : Addr) (items : Array Value) (n : Nat) (dct : Option Addr) (sl : Array (Option Value)) :
    Meets (Builtin.«enumerate.__new__» ⟨[.type "enumerate", .ref l], []⟩) (fun _ R s => s.heap.get? l = some { cls := .type "tuple", dict := dct, data := .seq items n, slots := sl } ∧
      R (.ok (.ret (.ref (s.heap.push { cls := .type "tuple_iterator", data := .fields #[.ref l, .int 0 0] }).objs.size)))
        { s with heap := (s.heap.push { cls := .type "tuple_iterator", data := .fields #[.ref l, .int 0 0] }).push { cls := .type "enumerate", data := .fields #[.none, .bool false, .ref s.heap.objs.size, rawInt 0, .none, .none] } }) :=
  .of_wp fun prog w A R s h => by
    obtain ⟨hp, g, d, tk, os⟩ := s; obtain ⟨hl, h⟩ := h
    have hsub := sub_enumerate
    have hL : Heap.IsTuple (Shared.heap ⟨hp, g, d, tk, os⟩) l items := ⟨_, hl, rfl, n, rfl⟩
    wp_walk using AutoSeq1.wpAny_loadPart' hl
    refine wpAny_stack_any fun st => wpAny_pure ?_
    split
    · rename_i c _ _ _ _ _
      cases (c == Value.type "enumerate")
      · wp_walk using AutoSeq1.wpAny_loadPart' hl, wpAny_pyIter_tuple hL
        exact ⟨_, rfl, h⟩
      · wp_walk using AutoSeq1.wpAny_loadPart' hl, wpAny_pyIter_tuple hL
        exact ⟨_, rfl, h⟩
    · wp_walk using AutoSeq1.wpAny_loadPart' hl, wpAny_pyIter_tuple hL
      exact ⟨_, rfl, h⟩
section
variable {prog : Program} {w : World} {A : Around} {E : Value → Shared → Prop} {s : Shared}
theorem call_enumT {l : Addr} {items : Array Value} {Q : Value → Shared → Prop} (hL : s.heap.IsTuple l items)
    (h : ∀ h', IsEnum h' (s.heap.objs.size + 1) s.heap.objs.size 0 .none → h'.IsTupleIter s.heap.objs.size l 0 → h'.objs.size = s.heap.objs.size + 2 →
      (∀ b o, s.heap.get? b = some o → h'.get? b = some o) → Q (.ref (s.heap.objs.size + 1)) { s with heap := h' }) :
    wpAny (model prog w) A (call (.type "enumerate") [.ref l]) Q E s := by
  obtain ⟨⟨c, dct, dt, sl⟩, hl, hc, n, hd⟩ := hL
  replace hc : c = .type "tuple" := hc
  replace hd : dt = .seq items n := hd
  subst hc hd
  refine callType_new F.called_enumerate (by decide) (F.typeCall_enumerate_1 _) (F.newCall_enumerate_1 _) (fun obj => F.args_object_init_2 obj _) F.entry_enumerate_new
    (meets_enumT l items n dct sl) ⟨hl, ?_⟩
  have hz : (s.heap.push { cls := .type "tuple_iterator", data := .fields #[.ref l, .int 0 0] }).objs.size = s.heap.objs.size + 1 := Heap.size_push ..
  show _ ∧ _
  rw [hz]
  have he : IsEnum ((s.heap.push { cls := .type "tuple_iterator", data := .fields #[.ref l, .int 0 0] }).push
      { cls := .type "enumerate", data := .fields #[.none, .bool false, .ref s.heap.objs.size, rawInt 0, .none, .none] }) (s.heap.objs.size + 1) s.heap.objs.size 0 .none := by
    have := Heap.get?_push_size (s.heap.push { cls := .type "tuple_iterator", data := .fields #[.ref l, .int 0 0] })
      (o := { cls := .type "enumerate", data := .fields #[.none, .bool false, .ref s.heap.objs.size, rawInt 0, .none, .none] }) rfl
    rw [hz] at this; exact this
  refine ⟨⟨_, he, rfl⟩, h _ he ⟨_, Heap.get?_push_of_some _ (Heap.get?_push_size _ rfl), rfl, rfl⟩ (by rw [Heap.size_push, hz]) fun b o x => Heap.get?_push_of_some _ (Heap.get?_push_of_some _ x)⟩
end
section
variable {X : Cx} {pins : List (Addr × Obj)} {s : Shared} {σ : L2.St} {H : Hp}
/-- the call, whatever is walked -/
theorem call_enumG (I : Inv X pins σ H s) {m : Md} {xs : List V} {u : Value} {Q : Value → Shared → Prop} (h : m.ok X.K H xs) (r : RelV m.v u)
    (q : ∀ h', IsEnum h' (s.heap.objs.size + 1) s.heap.objs.size 0 .none → ItAt h' s.heap.objs.size m.k u 0 → (∀ b o, s.heap.get? b = some o → h'.get? b = some o) → Q (.ref (s.heap.objs.size + 1)) { s with heap := h' }) :
    wpAny (model X.prog X.w) X.A (call (.type "enumerate") [u]) Q X.xe s := by
  cases m with
  | l a =>
    cases r
    obtain ⟨its, rv, p, _⟩ := I.list h
    exact call_enumerate_list p.isList fun h' a1 a2 a3 a4 => q h' a1 a2 a4
  | t a =>
    cases r
    obtain ⟨its, rv, p, _⟩ := I.tuple h
    exact call_enumT (show s.heap.IsTuple a its.toArray from p) fun h' a1 a2 a3 a4 => q h' a1 a2 a4
  | s x =>
    obtain ⟨t, rfl⟩ := r
    exact call_enumerate_str fun h' a1 a2 a3 a4 => q h' a1 a2 a4
end
def iEnumG (K : PySem.W.Frag) (ta : TA) : TI := fun σ H R => ta σ H fun vs H1 => ∃ (m : Md) (xs : List V), vs = [m.v] ∧ m.ok K H1 xs ∧ R (IteG K m xs.length) H1
theorem pi_enumG {X : Cx} {e : Expr} {ta : TA} {p pos tpos : Pos} {elts : List Expr} {kk : Nat} (hg : Gl X "enumerate") (hm : X.mg "enumerate" = none) (ha : PA X [e] ta) (hs : starEach [e] X.env = [(false, eval e X.env)] := by rfl) :
    PI X (.Tuple elts kk tpos) (.Call (.Name "enumerate" p) [e] [] pos) (iEnumG X.K ta) := by
  refine ⟨fun pins s σ H R I h => ?_⟩
  refine Call_ (ld_blt I hg hm boot_enumerate (PyProof.Rows.callWith_type1 (thn (ha.run pos pins s σ H _ I h) fun us s1 ⟨vs, H1, I1, r1, q1⟩ => ?_) hs rfl))
  obtain ⟨m, xs, ex, hq, q⟩ := q1
  subst ex
  cases r1 with
  | cons r rr =>
    cases rr
    obtain ⟨Pv, Bs, S, bs, pv, lt⟩ := src_of I1 hq r
    refine call_enumG I1 hq r fun h' he hit hk => wpAny_pyIter_enum he ?_
    have I2 : Inv X pins σ H1 { s1 with heap := h' } := I1.kept (t' := s1.toks) hk
    refine ⟨s1.heap.objs.size + 1, [s1.heap.objs.size + 1, s1.heap.objs.size], _, _, H1, rfl, I2, turn_enumG m xs.length _ r (s1.heap.objs.size + 1) s1.heap.objs.size (Nat.succ_ne_self _) (fun z => Nat.lt_irrefl _ (lt _ z)) (fun z => Nat.lt_irrefl _ (Nat.lt_of_succ_lt (lt _ z))), ⟨⟨.none, he⟩, hit, Nat.zero_le _⟩, fun b hb => ?_, q⟩
    have e' : b = s1.heap.objs.size + 1 ∨ b = s1.heap.objs.size := by simpa using hb
    have hle : s1.heap.objs.size ≤ b := by
      rcases e' with z | z
      · rw [z]; exact Nat.le_add_right _ _
      · rw [z]; exact Nat.le_refl _
    exact I1.fpOk hle (I1.hok.fresh hle)
/-! ### zip -/
def ItzG (K : PySem.W.Frag) (m m2 : Md) (n n2 : Nat) : It :=
  ⟨fun i H => ∃ (xs ys : List V) (x y : V), m.ok K H xs ∧ m2.ok K H ys ∧ xs.length = n ∧ ys.length = n2 ∧ xs[i]? = some x ∧ ys[i]? = some y,
    fun i H v H' => ∃ T x y, v = .ref T ∧ H T = none ∧ H' = upd H T (.tup [x, y]) ∧ (∀ xs, m.ok K H xs → xs[i]? = some x) ∧ ∀ ys, m2.ok K H ys → ys[i]? = some y,
    fun i H => ∃ xs ys : List V, m.ok K H xs ∧ m2.ok K H ys ∧ xs.length = n ∧ ys.length = n2 ∧ (n ≤ i ∨ n2 ≤ i)⟩
theorem turn_zipG {P : Program} {w : World} {K : PySem.W.Frag} {elts : List Expr} {kk : Nat} {tpos : Pos} {m m2 : Md} {u u2 : Value} {z TI TO i1 i2 : Addr} (n n2 : Nat) (hr : RelV m.v u) (hr2 : RelV m2.v u2) (D : ZipSep2 z TI TO i1 i2 (i1 :: m.ads) (i2 :: m2.ads)) (h1a : i1 ∉ m.ads) (h2a : i2 ∉ m2.ads) :
    Turn P w K (.Tuple elts kk tpos) (ItzG K m m2 n n2) [z, TI, TO, i1, i2] z (fun i h => IsZip h z TI TO .none ∧ IsPair h TI (.ref i1) (.ref i2) ∧ (∃ x y, IsPair h TO x y) ∧ ItAt h i1 m.k u i ∧ ItAt h i2 m2.k u2 i ∧ i ≤ n ∧ i ≤ n2) where
  mem := by simp
  obj := fun i h st c hc => by
    obtain ⟨hz, hTI, ⟨x, y, hTO⟩, ⟨o1, e1, _, d1⟩, ⟨o2, e2, _, d2⟩, _⟩ := st
    have e' : c = z ∨ c = TI ∨ c = TO ∨ c = i1 ∨ c = i2 := by simpa using hc
    rcases e' with q | q | q | q | q
    · rw [q]; exact ⟨_, hz, fun v q => nomatch q⟩
    · rw [q]; exact ⟨_, hTI, fun v q => nomatch q⟩
    · rw [q]; exact ⟨_, hTO, fun v q => nomatch q⟩
    · rw [q]; exact ⟨o1, e1, fun v q => by rw [d1] at q; cases q⟩
    · rw [q]; exact ⟨o2, e2, fun v q => by rw [d2] at q; cases q⟩
  keep := fun i h h' st k => by
    obtain ⟨hz, hTI, ⟨x, y, hTO⟩, h1, h2, hle⟩ := st
    exact ⟨k z (by simp) _ hz, k TI (by simp) _ hTI, ⟨x, y, k TO (by simp) _ hTO⟩, h1.at' fun o q => k i1 (by simp) o q, h2.at' fun o q => k i2 (by simp) o q, hle⟩
  item := by
    intro X hP hw hK hc i pins s σ H E I hf st hg
    subst hP hw hK
    obtain ⟨hz, hTI, ⟨x0, y0, hTO⟩, h1, h2, hle1, hle2⟩ := st
    obtain ⟨xs, ys, x, y, hqx, hqy, hn, hn2, hx, hy⟩ := hg
    obtain ⟨Pv, Bs, S, bs, pv, lt⟩ := src_of I hqx hr
    obtain ⟨Pv2, Bs2, S2, bs2, pv2, lt2⟩ := src_of I hqy hr2
    have hzl : z < s.heap.objs.size := Heap.lt_size hz
    have hi : i < xs.length := (List.getElem?_eq_some_iff.mp hx).1
    have hi2 : i < ys.length := (List.getElem?_eq_some_iff.mp hy).1
    have TIz := D.TIz
    have TOz := D.TOz
    have zi1 := D.zi1
    have zi2 := D.zi2
    refine wpAny_pyNext_zipD2_item D (S.draws X.A.in1 (I.ok.hd hc) i1 h1a) (S2.draws X.A.in1 (I.ok.hd hc) i2 h2a) hz hTI hTO ⟨h1, bs⟩ ⟨h2, bs2⟩ hi hi2 fun v1 v2 h' tk p1 p2 z' TO' h1' h2' hT hsz hk => ?_
    obtain ⟨x', hx', ru⟩ := pv i v1 p1
    rw [hx] at hx'; cases hx'
    obtain ⟨y', hy', ru2⟩ := pv2 i v2 p2
    rw [hy] at hy'; cases hy'
    refine ⟨_, rfl, wpAny_letOwnedTupleGo_zip (s := { s with heap := h', toks := tk }) z' fun h'' z'' sb => ?_⟩
    have hT2 : h''.get? s.heap.objs.size = some { cls := .type "tuple", data := .seq #[v1, v2] } := (sb.2 _ (Nat.ne_of_gt hzl)).trans hT
    have new : ObjOk X.prog X.w (upd H s.heap.objs.size (.tup [x, y])) h'' s.heap.objs.size (.tup [x, y]) :=
      ⟨by show 2 ≤ sizeLine; decide, [v1, v2], .cons ru (.cons ru2 .nil), ⟨_, hT2, rfl, _, rfl⟩⟩
    have I1 : Inv X pins σ (upd H s.heap.objs.size (.tup [x, y])) { s with heap := h'', toks := tk } :=
      I.turnedNew (t' := tk) (ch := [z, TI, TO, i1, i2]) (fun c o hb q => (sb.2 c (fun q' => hb (by simp [q']))).trans (hk c o (fun q' => hb (by simp [q'])) (fun q' => hb (by simp [q'])) (fun q' => hb (by simp [q'])) (fun q' => hb (by simp [q'])) q)) hf (Nat.le_refl _) new
    refine ⟨.ref s.heap.objs.size, _, I1, rfl, ⟨_, x, y, rfl, I.hok.fresh (Nat.le_refl _), rfl, fun l hl => by rw [md_inj I hl hqx]; exact hx, fun l hl => by rw [md_inj I hl hqy]; exact hy⟩, ⟨z'', ?_, ⟨v1, v2, ?_⟩, ?_, ?_, by omega, by omega⟩, fun c hcm => ?_⟩
    · exact (sb.2 _ TIz).trans (hk _ _ TIz D.TITO D.TIi1 D.TIi2 hTI)
    · exact (sb.2 _ TOz).trans TO'
    · exact h1'.1.at' fun o q => (sb.2 _ (Ne.symm zi1)).trans q
    · exact h2'.1.at' fun o q => (sb.2 _ (Ne.symm zi2)).trans q
    · have hlt : c < s.heap.objs.size := by
        have e' : c = z ∨ c = TI ∨ c = TO ∨ c = i1 ∨ c = i2 := by simpa using hcm
        rcases e' with q | q | q | q | q
        · rw [q]; exact hzl
        · rw [q]; exact Heap.lt_size hTI
        · rw [q]; exact Heap.lt_size hTO
        · rw [q]; exact h1.lt
        · rw [q]; exact h2.lt
      rw [upd_ne (Nat.ne_of_lt hlt)]
      exact (hf c hcm).1
  done := by
    intro X hP hw hK hc i pins s σ H E I hf st hg
    subst hP hw hK
    obtain ⟨hz, hTI, ⟨x0, y0, hTO⟩, h1, h2, hle1, hle2⟩ := st
    obtain ⟨xs, ys, hqx, hqy, hn, hn2, hend⟩ := hg
    obtain ⟨Pv, Bs, S, bs, pv, lt⟩ := src_of I hqx hr
    obtain ⟨Pv2, Bs2, S2, bs2, pv2, lt2⟩ := src_of I hqy hr2
    refine wpAny_pyNext_zipD2_end D (S.draws X.A.in1 (I.ok.hd hc) i1 h1a) (S2.draws X.A.in1 (I.ok.hd hc) i2 h2a) hz hTI hTO ⟨h1, bs⟩ ⟨h2, bs2⟩ (by omega) (by omega) (by omega) fun h' tk hk => ⟨rfl, I.turnedL (t' := tk) (ch := [z, TI, TO, i1, i2]) (fun c o hb q =>
      hk c o (fun q' => hb (by simp [q'])) (fun q' => hb (by simp [q'])) (fun q' => hb (by simp [q'])) (fun q' => hb (by simp [q'])) q) hf⟩
  self := fun A i s Q E st h => wpAny_pyIter_zip st.1 h
abbrev zG1 (h : Heap) (k : String) (u : Value) : Heap := h.push { cls := .type k, data := .fields #[u, .int 0 0] }
abbrev zG2 (h : Heap) (k k2 : String) (u u2 : Value) : Heap := (zG1 h k u).push { cls := .type k2, data := .fields #[u2, .int 0 0] }
abbrev zG3 (h : Heap) (k k2 : String) (u u2 : Value) : Heap := (zG2 h k k2 u u2).push { cls := .type "tuple", data := .seq #[.ref h.objs.size, .ref (zG1 h k u).objs.size] }
abbrev zG4 (h : Heap) (k k2 : String) (u u2 : Value) : Heap := (zG3 h k k2 u u2).push { cls := .type "tuple", data := .seq #[.none, .none] }
abbrev zG5 (h : Heap) (k k2 : String) (u u2 : Value) : Heap := (zG4 h k k2 u u2).push { cls := .type "zip", data := .fields #[.none, .bool false, .bool false, .ref (zG2 h k k2 u u2).objs.size, .ref (zG3 h k k2 u u2).objs.size] }
theorem meets_zipLT (l1 l2 : Addr) (xs ys : Array Value) :
    Meets (Builtin.«zip.__new__» ⟨[.type "zip", .ref l1, .ref l2], []⟩) (fun _ R s => s.heap.IsList l1 xs ∧ s.heap.IsTuple l2 ys ∧
      R (.ok (.ret (.ref (zG4 s.heap "list_iterator" "tuple_iterator" (.ref l1) (.ref l2)).objs.size))) { s with heap := zG5 s.heap "list_iterator" "tuple_iterator" (.ref l1) (.ref l2) }) :=
  .of_wp fun prog w A R s h => by
    obtain ⟨hp, g, d, tk, os⟩ := s; obtain ⟨hl1, hl2, h⟩ := h
    have hsub := sub_zip
    have hL1 : Heap.IsList (Shared.heap ⟨hp, g, d, tk, os⟩) l1 xs := hl1
    have hL2 : Heap.IsTuple (Shared.heap ⟨hp.push { cls := .type "list_iterator", data := .fields #[.ref l1, .int 0 0] }, g, d, tk, os⟩) l2 ys := Heap.IsTuple.push hl2 _
    wp_walk using wpAny_pyIter_list hL1, wpAny_pyIter_tuple hL2
    exact ⟨_, rfl, h⟩
theorem meets_zipTL (l1 l2 : Addr) (xs ys : Array Value) :
    Meets (Builtin.«zip.__new__» ⟨[.type "zip", .ref l1, .ref l2], []⟩) (fun _ R s => s.heap.IsTuple l1 xs ∧ s.heap.IsList l2 ys ∧
      R (.ok (.ret (.ref (zG4 s.heap "tuple_iterator" "list_iterator" (.ref l1) (.ref l2)).objs.size))) { s with heap := zG5 s.heap "tuple_iterator" "list_iterator" (.ref l1) (.ref l2) }) :=
  .of_wp fun prog w A R s h => by
    obtain ⟨hp, g, d, tk, os⟩ := s; obtain ⟨hl1, hl2, h⟩ := h
    have hsub := sub_zip
    have hL1 : Heap.IsTuple (Shared.heap ⟨hp, g, d, tk, os⟩) l1 xs := hl1
    have hL2 : Heap.IsList (Shared.heap ⟨hp.push { cls := .type "tuple_iterator", data := .fields #[.ref l1, .int 0 0] }, g, d, tk, os⟩) l2 ys := let ⟨o, a, b⟩ := hl2; ⟨o, Heap.get?_push_of_some _ a, b⟩
    wp_walk using wpAny_pyIter_tuple hL1, wpAny_pyIter_list hL2
    exact ⟨_, rfl, h⟩
/-- what the call leaves -/
theorem zip_left {h : Heap} {k k2 : String} {u u2 : Value} {R : Heap → Prop} (q : ∀ h', IsZip h' (h.objs.size + 4) (h.objs.size + 2) (h.objs.size + 3) .none → IsPair h' (h.objs.size + 2) (.ref h.objs.size) (.ref (h.objs.size + 1)) → IsPair h' (h.objs.size + 3) .none .none → ItAt h' h.objs.size k u 0 → ItAt h' (h.objs.size + 1) k2 u2 0 →
      (∀ c o, h.get? c = some o → h'.get? c = some o) → R h') : (zG4 h k k2 u u2).objs.size = h.objs.size + 4 ∧ (zG5 h k k2 u u2).get? (h.objs.size + 4) = some { cls := .type "zip", data := .fields #[.none, .bool false, .bool false, .ref (h.objs.size + 2), .ref (h.objs.size + 3)] } ∧ R (zG5 h k k2 u u2) := by
  have z1 : (zG1 h k u).objs.size = h.objs.size + 1 := Heap.size_push ..
  have z2 : (zG2 h k k2 u u2).objs.size = h.objs.size + 2 := by rw [Heap.size_push, z1]
  have z3 : (zG3 h k k2 u u2).objs.size = h.objs.size + 3 := by rw [Heap.size_push, z2]
  have z4 : (zG4 h k k2 u u2).objs.size = h.objs.size + 4 := by rw [Heap.size_push, z3]
  have g5 : (zG5 h k k2 u u2).get? (zG4 h k k2 u u2).objs.size = some _ := Heap.get?_push_size _ rfl
  have g4 : (zG5 h k k2 u u2).get? (zG3 h k k2 u u2).objs.size = some _ := Heap.get?_push_of_some _ (Heap.get?_push_size _ rfl)
  have g3 : (zG5 h k k2 u u2).get? (zG2 h k k2 u u2).objs.size = some _ := Heap.get?_push_of_some _ (Heap.get?_push_of_some _ (Heap.get?_push_size _ rfl))
  have g2 : (zG5 h k k2 u u2).get? (zG1 h k u).objs.size = some _ := Heap.get?_push_of_some _ (Heap.get?_push_of_some _ (Heap.get?_push_of_some _ (Heap.get?_push_size _ rfl)))
  have g1 : (zG5 h k k2 u u2).get? h.objs.size = some _ := Heap.get?_push_of_some _ (Heap.get?_push_of_some _ (Heap.get?_push_of_some _ (Heap.get?_push_of_some _ (Heap.get?_push_size _ rfl))))
  rw [z2, z3, z4] at g5
  rw [z1, z2] at g3
  rw [z3] at g4
  rw [z1] at g2
  exact ⟨z4, g5, q _ g5 g3 g4 ⟨_, g1, rfl, rfl⟩ ⟨_, g2, rfl, rfl⟩ fun c o x => Heap.get?_push_of_some _ (Heap.get?_push_of_some _ (Heap.get?_push_of_some _ (Heap.get?_push_of_some _ (Heap.get?_push_of_some _ x))))⟩
def Md.sq : Md → Bool
  | .s _ => false
  | _ => true
section
variable {X : Cx} {pins : List (Addr × Obj)} {s : Shared} {σ : L2.St} {H : Hp}
theorem call_zipG (I : Inv X pins σ H s) {m m2 : Md} {xs ys : List V} {u u2 : Value} {Q : Value → Shared → Prop} (hs : m.sq = true) (hs2 : m2.sq = true) (h : m.ok X.K H xs) (h2 : m2.ok X.K H ys) (r : RelV m.v u) (r2 : RelV m2.v u2)
    (q : ∀ h', IsZip h' (s.heap.objs.size + 4) (s.heap.objs.size + 2) (s.heap.objs.size + 3) .none → IsPair h' (s.heap.objs.size + 2) (.ref s.heap.objs.size) (.ref (s.heap.objs.size + 1)) → IsPair h' (s.heap.objs.size + 3) .none .none → ItAt h' s.heap.objs.size m.k u 0 → ItAt h' (s.heap.objs.size + 1) m2.k u2 0 →
      (∀ c o, s.heap.get? c = some o → h'.get? c = some o) → Q (.ref (s.heap.objs.size + 4)) { s with heap := h' }) :
    wpAny (model X.prog X.w) X.A (call (.type "zip") [u, u2]) Q X.xe s := by
  have mk : ∀ {k k2 : String}, k = m.k → k2 = m2.k → (wants (fun obj s₁ => s₁.TypeIs obj "zip" ∧ Q obj s₁) X.xe) (.ok (.ret (.ref (zG4 s.heap k k2 u u2).objs.size))) { s with heap := zG5 s.heap k k2 u u2 } := fun e e2 => by
    subst e e2
    obtain ⟨a1, a2, a3⟩ := zip_left (h := s.heap) (k := m.k) (k2 := m2.k) (u := u) (u2 := u2) (R := fun h' => Q (.ref (s.heap.objs.size + 4)) { s with heap := h' }) q
    show _ ∧ _
    rw [a1]
    exact ⟨⟨_, a2, rfl⟩, a3⟩
  cases m with
  | s x => cases hs
  | l a =>
    cases r
    obtain ⟨its, rv, p, _⟩ := I.list h
    cases m2 with
    | s x => cases hs2
    | l b =>
      cases r2
      obtain ⟨its2, rv2, p2, _⟩ := I.list h2
      exact call_zip_2 p.isList p2.isList fun h' a1 a2 a3 a4 a5 a6 a7 => q h' a1 a2 a3 a4 a5 a7
    | t b =>
      cases r2
      obtain ⟨its2, rv2, p2, _⟩ := I.tuple h2
      exact callType_new F.called_zip (by decide) (F.typeCall_zip_2 _ _) (F.newCall_zip_2 _ _) (fun obj => F.args_object_init_3 obj _ _) F.entry_zip_new (meets_zipLT a b its.toArray its2.toArray) ⟨p.isList, (show s.heap.IsTuple b its2.toArray from p2), mk rfl rfl⟩
  | t a =>
    cases r
    obtain ⟨its, rv, p, _⟩ := I.tuple h
    cases m2 with
    | s x => cases hs2
    | l b =>
      cases r2
      obtain ⟨its2, rv2, p2, _⟩ := I.list h2
      exact callType_new F.called_zip (by decide) (F.typeCall_zip_2 _ _) (F.newCall_zip_2 _ _) (fun obj => F.args_object_init_3 obj _ _) F.entry_zip_new (meets_zipTL a b its.toArray its2.toArray) ⟨(show s.heap.IsTuple a its.toArray from p), p2.isList, mk rfl rfl⟩
    | t b =>
      cases r2
      obtain ⟨its2, rv2, p2, _⟩ := I.tuple h2
      exact RZ.call_zipT (show s.heap.IsTuple a its.toArray from p) (show s.heap.IsTuple b its2.toArray from p2) fun h' a1 a2 a3 a4 a5 a6 a7 => q h' a1 a2 a3 a4 a5 a7
end
def iZipG (K : PySem.W.Frag) (ta : TA) : TI := fun σ H R => ta σ H fun vs H1 => ∃ (m m2 : Md) (xs ys : List V), vs = [m.v, m2.v] ∧ m.sq = true ∧ m2.sq = true ∧ m.ok K H1 xs ∧ m2.ok K H1 ys ∧ R (ItzG K m m2 xs.length ys.length) H1
theorem pi_zipG {X : Cx} {e e2 : Expr} {ta : TA} {p pos tpos : Pos} {elts : List Expr} {kk : Nat} (hg : Gl X "zip") (hm : X.mg "zip" = none) (ha : PA X [e, e2] ta)
    (hs : starEach [e, e2] X.env = (false, eval e X.env) :: starEach [e2] X.env := by rfl) (hpl : (backTo pos (starEach [e2] X.env)).any (·.1) = false := by rfl) :
    PI X (.Tuple elts kk tpos) (.Call (.Name "zip" p) [e, e2] [] pos) (iZipG X.K ta) := by
  refine ⟨fun pins s σ H R I h => ?_⟩
  refine Call_ (ld_blt I hg hm PyProof.Rows.boot_zip (PyProof.Rows.callWith_type1 (thn (ha.run pos pins s σ H _ I h) fun us s1 ⟨vs, H1, I1, r1, q1⟩ => ?_) hs hpl))
  obtain ⟨m, m2, xs, ys, ex, hs1, hs2, hqx, hqy, q⟩ := q1
  subst ex
  cases r1 with
  | cons r rr =>
    cases rr with
    | cons r' rr =>
      cases rr
      obtain ⟨Pv, Bs, S, bs, pv, lt⟩ := src_of I1 hqx r
      obtain ⟨Pv2, Bs2, S2, bs2, pv2, lt2⟩ := src_of I1 hqy r'
      refine call_zipG I1 hs1 hs2 hqx hqy r r' fun h' hz hTI hTO h1 h2 hk => wpAny_pyIter_zip hz ?_
      have I2 : Inv X pins σ H1 { s1 with heap := h' } := I1.kept (t' := s1.toks) hk
      have nin : ∀ {m : Md} (j : Nat), (∀ b ∈ m.ads, b < s1.heap.objs.size) → s1.heap.objs.size + j ∉ m.ads := fun j l z => by
        have := l _ z
        exact absurd this (Nat.not_lt.mpr (Nat.le_add_right _ _))
      have ne : ∀ (a b : Nat), a ≠ b → (s1.heap.objs.size + a : Nat) ≠ s1.heap.objs.size + b := fun a b h z => h (Nat.add_left_cancel z)
      have sep : ZipSep2 (s1.heap.objs.size + 4) (s1.heap.objs.size + 2) (s1.heap.objs.size + 3) (s1.heap.objs.size + 0) (s1.heap.objs.size + 1) ((s1.heap.objs.size + 0) :: m.ads) ((s1.heap.objs.size + 1) :: m2.ads) :=
        ⟨ne 2 4 (by decide), ne 3 4 (by decide), ne 2 3 (by decide), ne 2 0 (by decide), .head _, by rw [List.mem_cons, not_or]; exact ⟨ne 4 0 (by decide), nin 4 lt⟩, by rw [List.mem_cons, not_or]; exact ⟨ne 3 0 (by decide), nin 3 lt⟩, ne 2 1 (by decide), .head _,
          by rw [List.mem_cons, not_or]; exact ⟨ne 4 1 (by decide), nin 4 lt2⟩, by rw [List.mem_cons, not_or]; exact ⟨ne 3 1 (by decide), nin 3 lt2⟩, by rw [List.mem_cons, not_or]; exact ⟨ne 0 1 (by decide), nin 0 lt2⟩, by rw [List.mem_cons, not_or]; exact ⟨ne 1 0 (by decide), nin 1 lt⟩⟩
      refine ⟨s1.heap.objs.size + 4, [s1.heap.objs.size + 4, s1.heap.objs.size + 2, s1.heap.objs.size + 3, s1.heap.objs.size + 0, s1.heap.objs.size + 1], _, _, H1, rfl, I2, turn_zipG xs.length ys.length r r' sep (nin 0 lt) (nin 1 lt2), ⟨hz, hTI, ⟨_, _, hTO⟩, h1, h2, Nat.zero_le _, Nat.zero_le _⟩, fun c hcm => ?_, q⟩
      have e' : c = s1.heap.objs.size + 4 ∨ c = s1.heap.objs.size + 2 ∨ c = s1.heap.objs.size + 3 ∨ c = s1.heap.objs.size + 0 ∨ c = s1.heap.objs.size + 1 := by simpa using hcm
      have hle : s1.heap.objs.size ≤ c := by
        rcases e' with z | z | z | z | z <;> (rw [z]; exact Nat.le_add_right _ _)
      exact I1.fpOk hle (I1.hok.fresh hle)
end
end KL
/-! KL, part r: enumerate and zip as walked; lists repeated; sorted. -/
namespace KL
open PySem L2
section
variable {X : Cx} {L : Lx} {W : WX} {σ : L2.St} {Δ : DEnv} {F H : Hp} {e e2 a b c : Expr} {es elts : List Expr} {me ma mb mc : DEnv → Res D} {p pos tpos : Pos} {x : Str} {i kk : Nat}
/-- what is walked, as data -/
def walkD : D → Option (List D)
  | .lst ds => some ds
  | .lsx ds => some ds
  | .tup ds => some ds
  | .str z => some (signs z)
  | _ => none
theorem walk_md {v : V} {d : D} {ds : List D} (h : walkD d = some ds) (r : Rep L.K F v d) : ∃ (m : Md) (vs : List V), v = m.v ∧ (∀ H', Ex F H' → m.ok L.K H' vs) ∧ vs.length = ds.length ∧ (∀ (i : Nat) u z, vs[i]? = some u → ds[i]? = some z → Rep L.K F u z) ∧ (m.sq = true ∨ ∃ z, d = .str z) := by
  cases d with
  | lst xs => cases h; obtain ⟨a, vs, rfl, h1, h2⟩ := rep_ref_lst r; exact ⟨.l a, vs, rfl, fun H' e => SqL.of (e _ _ h1), h2.1, h2.2, .inl rfl⟩
  | lsx xs => cases h; obtain ⟨a, vs, rfl, h1, h2⟩ := rep_ref_lsx r; exact ⟨.l a, vs, rfl, fun H' e => e.sl h1, h2.1, h2.2, .inl rfl⟩
  | tup xs => cases h; obtain ⟨a, vs, rfl, h1, h2⟩ := rep_ref_tup r; exact ⟨.t a, vs, rfl, fun H' e => e.st h1, h2.1, h2.2, .inl rfl⟩
  | str z =>
    cases h; cases r
    refine ⟨.s z, z.cps.toList.map fun c => V.str ⟨#[c]⟩, rfl, fun H' e => rfl, by simp [signs], fun i u w h1 h2 => ?_, .inr ⟨z, rfl⟩⟩
    unfold signs at h2
    rw [List.getElem?_map] at h1 h2
    cases q : z.cps.toList[i]? with
    | none => rw [q] at h1; cases h1
    | some c => rw [q] at h1 h2; cases h1; cases h2; exact .str _
  | _ => cases h
def enumL (ds : List D) : List D := (List.range ds.length).map fun i => .tup [.int (i : Nat), ds.getD i .non]
def enumM (m : DEnv → Res D) : DEnv → Res (List D) := fun Δ => (m Δ).bind fun d Δ1 => .opt ((walkD d).map enumL) Δ1
theorem enumL_get {ds : List D} {i : Nat} {d : D} (h : (enumL ds)[i]? = some d) : ∃ z, ds[i]? = some z ∧ d = .tup [.int (i : Nat), z] := by
  unfold enumL at h
  rw [List.getElem?_map] at h
  cases q : (List.range ds.length)[i]? with
  | none => rw [q] at h; cases h
  | some j =>
    rw [q] at h; cases h
    have hi : i < ds.length := by have := (List.getElem?_eq_some_iff.mp q).1; simpa using this
    have hj : j = i := by rw [List.getElem?_range hi] at q; cases q; rfl
    subst hj
    refine ⟨ds[j], List.getElem?_eq_getElem hi, ?_⟩
    show D.tup [.int (j : Nat), ds.getD j .non] = _
    rw [List.getD_eq_getElem?_getD, List.getElem?_eq_getElem hi]; rfl
theorem enumL_len {ds : List D} : (enumL ds).length = ds.length := by simp [enumL]
theorem rep_pair {F' : Hp} {T : Addr} {u v : V} {x y : D} (e : Ex F F') (h : F' T = some (.tup [u, v])) (r1 : Rep L.K F u x) (r2 : Rep L.K F v y) : Rep L.K F' (.ref T) (.tup [x, y]) :=
  .tup (SqT.of h) rfl fun j a b h1 h2 => by
    cases j with
    | zero => cases h1; cases h2; exact r1.mono e
    | succ j => cases j with
      | zero => cases h1; cases h2; exact r2.mono e
      | succ j => simp at h1
theorem i_enum (hg : Gl X "enumerate") (hm : X.mg "enumerate" = none) (h : DE X L W e me) (hs : starEach [e] X.env = [(false, eval e X.env)] := by rfl) (hk : L.K = X.K := by rfl) :
    DI X L W (.Tuple elts kk tpos) (.Call (.Name "enumerate" p) [e] [] pos) (enumM me) := by
  obtain ⟨te, p1, s1⟩ := h.ex
  refine ⟨_, pi_enumG hg hm (pa_cons p1 pa_nil (hs.trans rfl)) hs, fun σ Δ F H R env w => ?_⟩
  refine s1 σ Δ F H _ env (w.bind.mono fun d Δ1 F1 H1 env1 w1 v r => ?_)
  cases q : walkD d with
  | none => rw [q] at w1; exact w1.elim
  | some ds =>
    rw [q] at w1
    obtain ⟨m, vs, rfl, ok, hl, rp, _⟩ := walk_md q r
    refine ⟨m, vs, rfl, hk ▸ ok H1 env1.ex, w1 F1 H1 env1 .refl _ fun i F' H' e1 e2 => ?_⟩
    have okH : m.ok X.K H' vs := hk ▸ ok H' (e1.trans e2)
    refine ⟨fun z hz => ?_, fun hle => ⟨vs, okH, rfl, by rw [enumL_len] at hle; omega⟩⟩
    obtain ⟨y, hy, rfl⟩ := enumL_get hz
    have hi : i < ds.length := (List.getElem?_eq_some_iff.mp hy).1
    have hu : vs[i]? = some (vs[i]'(by omega)) := List.getElem?_eq_getElem (by omega)
    refine ⟨⟨vs, _, okH, rfl, hu⟩, fun x H'' ⟨T, x0, ev, hT, eH'', hx⟩ => ?_⟩
    have := hx vs okH
    rw [hu] at this; cases this
    subst ev eH''
    have g : Gro F' H' (upd F' T (.tup [.int (i : Nat), vs[i]'(by omega)])) (upd H' T (.tup [.int (i : Nat), vs[i]'(by omega)])) := Gro.new e2 hT
    exact ⟨_, g, rep_pair g.f upd_same (.int _) ((rp i _ _ hu hy).mono e1)⟩
def zipL (xs ys : List D) : List D := (xs.zip ys).map fun q => .tup [q.1, q.2]
def zipD (d d2 : D) : Option (List D) := match d with
  | .str _ => none
  | d => match d2 with
    | .str _ => none
    | d2 => (walkD d).bind fun xs => (walkD d2).map fun ys => zipL xs ys
theorem zipD_some {d d2 : D} {zs : List D} (h : zipD d d2 = some zs) : ∃ xs ys, walkD d = some xs ∧ walkD d2 = some ys ∧ zs = zipL xs ys ∧ (∀ z, d ≠ .str z) ∧ ∀ z, d2 ≠ .str z := by
  unfold zipD at h
  split at h
  · cases h
  · rename_i h0
    split at h
    · cases h
    · rename_i h1
      obtain ⟨xs, e1, h⟩ := Option.bind_eq_some_iff.mp h
      obtain ⟨ys, e2, rfl⟩ := Option.map_eq_some_iff.mp h
      exact ⟨xs, ys, e1, e2, rfl, fun z q => h0 z q, fun z q => h1 z q⟩
theorem zipL_get {xs ys : List D} {i : Nat} {d : D} (h : (zipL xs ys)[i]? = some d) : ∃ x y, xs[i]? = some x ∧ ys[i]? = some y ∧ d = .tup [x, y] := by
  unfold zipL at h
  rw [List.getElem?_map] at h
  cases q : (xs.zip ys)[i]? with
  | none => rw [q] at h; cases h
  | some z =>
    rw [q] at h; cases h
    obtain ⟨h1, h2⟩ := List.getElem?_zip_eq_some.mp q
    exact ⟨z.1, z.2, h1, h2, rfl⟩
theorem i_zip (hg : Gl X "zip") (hm : X.mg "zip" = none) (h : DE X L W e ma) (h' : DE X L W e2 mb) (hs : starEach [e, e2] X.env = (false, eval e X.env) :: starEach [e2] X.env := by rfl) (hs2 : starEach [e2] X.env = (false, eval e2 X.env) :: starEach [] X.env := by rfl)
    (hpl : (backTo pos (starEach [e2] X.env)).any (·.1) = false := by rfl) (hk : L.K = X.K := by rfl) :
    DI X L W (.Tuple elts kk tpos) (.Call (.Name "zip" p) [e, e2] [] pos) (opM zipD ma mb) := by
  obtain ⟨ta, p1, s1⟩ := h.ex
  obtain ⟨tb, p2, s2⟩ := h'.ex
  refine ⟨_, pi_zipG hg hm (pa_cons p1 (pa_cons p2 pa_nil hs2) hs) hs hpl, fun σ Δ F H R env w => ?_⟩
  refine s1 σ Δ F H _ env (w.bind.mono fun d Δ1 F1 H1 env1 w1 v r => ?_)
  refine s2 σ Δ1 F1 H1 _ env1 (Want.keep (w1.bind.mono fun d2 Δ2 F2 H2 env2 w2 st v2 r2 => ?_))
  cases q : zipD d d2 with
  | none => rw [q] at w2; exact w2.elim
  | some zs =>
    rw [q] at w2
    obtain ⟨xs, ys, q1, q2, rfl, n1, n2⟩ := zipD_some q
    obtain ⟨m, vs, rfl, ok, hl, rp, sq⟩ := walk_md q1 (r.mono st.fr)
    obtain ⟨m2, vs2, rfl, ok2, hl2, rp2, sq2⟩ := walk_md q2 r2
    have hsq : m.sq = true := sq.elim id fun ⟨z, hz⟩ => absurd hz (n1 z)
    have hsq2 : m2.sq = true := sq2.elim id fun ⟨z, hz⟩ => absurd hz (n2 z)
    refine ⟨m, m2, vs, vs2, rfl, hsq, hsq2, hk ▸ ok H2 env2.ex, hk ▸ ok2 H2 env2.ex, w2 F2 H2 env2 .refl _ fun i F' H' e1 e2 => ?_⟩
    have okH : m.ok X.K H' vs := hk ▸ ok H' (e1.trans e2)
    have okH2 : m2.ok X.K H' vs2 := hk ▸ ok2 H' (e1.trans e2)
    refine ⟨fun z hz => ?_, fun hle => ⟨vs, vs2, okH, okH2, rfl, rfl, by unfold zipL at hle; rw [List.length_map, List.length_zip] at hle; omega⟩⟩
    obtain ⟨x, y, hx, hy, rfl⟩ := zipL_get hz
    have hi : i < xs.length := (List.getElem?_eq_some_iff.mp hx).1
    have hi2 : i < ys.length := (List.getElem?_eq_some_iff.mp hy).1
    have hu : vs[i]? = some (vs[i]'(by omega)) := List.getElem?_eq_getElem (by omega)
    have hu2 : vs2[i]? = some (vs2[i]'(by omega)) := List.getElem?_eq_getElem (by omega)
    refine ⟨⟨vs, vs2, _, _, okH, okH2, rfl, rfl, hu, hu2⟩, fun x' H'' ⟨T, x0, y0, ev, hT, eH'', hx', hy'⟩ => ?_⟩
    have t1 := hx' vs okH
    have t2 := hy' vs2 okH2
    rw [hu] at t1; cases t1
    rw [hu2] at t2; cases t2
    subst ev eH''
    have g : Gro F' H' (upd F' T (.tup [vs[i]'(by omega), vs2[i]'(by omega)])) (upd H' T (.tup [vs[i]'(by omega), vs2[i]'(by omega)])) := Gro.new e2 hT
    exact ⟨_, g, rep_pair g.f upd_same ((rp i _ _ hu hx).mono e1) ((rp2 i _ _ hu2 hy).mono e1)⟩
end
end KL
/-! KL, part s: lists repeated, sorted, slices of any value, count. -/
namespace KL
open PySem L2
section
variable {X : Cx} {L : Lx} {W : WX} {σ : L2.St} {Δ : DEnv} {F H : Hp} {e e2 a b c : Expr} {es : List Expr} {me ma mb mc : DEnv → Res D} {p pos tpos : Pos} {x : Str} {i kk : Nat}
/-! ### xs * n -/
theorem reps_flat {vs : List V} {ds : List D} (h : Reps L.K F vs ds) : ∀ n : Nat, Reps L.K F (List.replicate n vs).flatten (List.replicate n ds).flatten
  | 0 => Reps.nil
  | n + 1 => by
    rw [List.replicate_succ, List.replicate_succ, List.flatten_cons, List.flatten_cons]
    exact h.append (reps_flat h n)
theorem opf_rep : OpF L rRep repF := by
  intro F H x y dx dy ds Q ex hf rx ry q
  unfold repF at hf
  split at hf
  · rename_i xs k
    split at hf
    · rename_i hc; cases hf
      obtain ⟨a, vs, e1, e2, e3⟩ := rx.lst ex
      refine ⟨a, k, vs, e1, ry.int, e2, ?_, ?_, by rw [line_eq, e3.1]; exact hc.2.2, fun p hp => q p _ hp (reps_flat e3 _)⟩
      · have := hc.1; omega
      · have := hc.2.1; omega
    · cases hf
  · cases hf
theorem repF_ok {xs : List D} {n : Nat} (h : (n : Int) < 4611686018427387904) (h2 : xs.length * n ≤ 16777216) : repF (.lst xs) (.int (n : Int)) = some (List.replicate n xs).flatten := by
  simp only [repF, Int.toNat_natCast]
  rw [if_pos ⟨by omega, h, h2⟩]
/-! ### slices of any value -/
def rSlA (K : PySem.W.Frag) : V → Option Int → Option Int → Hp → VK → Prop := fun x lo hi H Q => (∃ z, x = .str z ∧ z.length ≤ sizeLine ∧ Q (.str (cutS z lo hi)) H) ∨ rSlL K x lo hi H Q ∨ rSlT K x lo hi H Q
theorem sl_any : SlR X (rSlA X.K) := SlR.or sl_str (SlR.or sl_list sl_tup)
def slAD (d : D) (lo hi : Option Int) : Option D := match d with
  | .str z => if z.length ≤ 16777216 then some (.str (cutS z lo hi)) else none
  | .lst ds => some (.lst (cutL ds lo hi))
  | .tup ds => if HT.sIx ds.length 0 lo = 0 ∧ HT.sIx ds.length ds.length hi = ds.length then none else some (.tup (cutL ds lo hi))
  | _ => none
theorem sl_run {k : Lx} {lo hi : Option Int} {d z : D} {v : V} {Q : VK} (ex : Ex F H) (hf : slAD d lo hi = some z) (r : Rep k.K F v d) (q : ∀ u F' H', Gro F H F' H' → Rep k.K F' u z → Q u H') : rSlA k.K v lo hi H Q := by
  unfold slAD at hf
  split at hf
  · split at hf
    · rename_i hl; cases hf; cases r; exact .inl ⟨_, rfl, by rw [line_eq]; exact hl, q _ F H (.refl ex) (.str _)⟩
    · cases hf
  · cases hf
    obtain ⟨a, vs, rfl, h1, h2⟩ := rep_ref_lst r
    have rr := cutL_reps (L := k) h2 lo hi
    refine .inr (.inl ⟨a, vs, rfl, SqL.of (ex _ _ h1), fun p hp => ?_⟩)
    have g : Gro F H (upd F p (.lst (cutV vs lo hi))) (upd H p (.lst (cutV vs lo hi))) := Gro.new ex hp
    exact q _ _ _ g (.lst upd_same rr.1 fun i v d a b => (rr.2 i v d a b).mono g.f)
  · rename_i ds
    split at hf
    · cases hf
    · rename_i hn
      cases hf
      obtain ⟨a, vs, rfl, h1, h2⟩ := rep_ref_tup r
      have rr := cutL_reps (L := k) h2 lo hi
      refine .inr (.inr ⟨a, vs, rfl, ex.st h1, by rw [h2.1]; exact hn, fun p hp => ?_⟩)
      have g : Gro F H (upd F p (.tup (cutV vs lo hi))) (upd H p (.tup (cutV vs lo hi))) := Gro.new ex hp
      exact q _ _ _ g (.tup (SqT.of upd_same) rr.1 fun i v d a b => (rr.2 i v d a b).mono g.f)
  · cases hf
theorem d_slA {lo hi : Option Expr} {ml mh : DEnv → Res (Option Int)} {p2 : Pos} (h : DE X L W e me) (hl : DO X L W lo ml) (hh : DO X L W hi mh) (hk : L.K = X.K := by rfl) : DE X L W (.Subscript e (.Slice lo hi none p2) pos) (slM slAD me ml mh) := by
  obtain ⟨_, p1, s1⟩ := h.ex
  obtain ⟨_, q2, s2⟩ := hl.ex
  obtain ⟨_, q3, s3⟩ := hh.ex
  refine ⟨_, pe_slice sl_any p1 q2 q3, fun σ Δ F H Q env w => ?_⟩
  refine s1 σ Δ F H _ env (w.bind.mono fun d Δ1 F1 H1 env1 w1 v r => ?_)
  refine s2 σ Δ1 F1 H1 _ env1 (Want.keep (w1.bind.mono fun lo Δ2 F2 H2 env2 w2 st2 => ?_))
  refine s3 σ Δ2 F2 H2 _ env2 (Want.keep (w2.bind.mono fun hi Δ3 F3 H3 env3 w3 st3 => ?_))
  cases q : slAD d lo hi with
  | none => rw [q] at w3; exact w3.elim
  | some z =>
    rw [q] at w3
    exact hk ▸ sl_run (k := L) env3.ex q ((r.mono st2.fr).mono st3.fr) fun u F' H' g ru => w3 F' H' (env3.gro g) (.gro g) u ru
/-- a slice of a list, fresh -/
theorem f_sl {lo hi : Option Expr} {ml mh : DEnv → Res (Option Int)} {p2 : Pos} (h : DE X L W e me) (hl : DO X L W lo ml) (hh : DO X L W hi mh) (hk : L.K = X.K := by rfl) : DF X L W (.Subscript e (.Slice lo hi none p2) pos) (slM slLD me ml mh) := by
  obtain ⟨_, p1, s1⟩ := h.ex
  obtain ⟨_, q2, s2⟩ := hl.ex
  obtain ⟨_, q3, s3⟩ := hh.ex
  refine ⟨_, pe_slice sl_list p1 q2 q3, fun σ Δ F H Q env w => ?_⟩
  refine s1 σ Δ F H _ env (Want.keep (w.bind.mono fun d Δ1 F1 H1 env1 w1 st1 v r => ?_))
  refine s2 σ Δ1 F1 H1 _ env1 (Want.keep (w1.bind.mono fun lo Δ2 F2 H2 env2 w2 st2 => ?_))
  refine s3 σ Δ2 F2 H2 _ env2 (Want.keep (w2.bind.mono fun hi Δ3 F3 H3 env3 w3 st3 => ?_))
  cases d with
  | lst ds =>
    obtain ⟨a, vs, rfl, h1, h2⟩ := rep_ref_lst ((r.mono st2.fr).mono st3.fr)
    have rr := cutL_reps h2 lo hi
    refine ⟨a, vs, rfl, SqL.of (env3.ex _ _ h1), fun p hp => ?_⟩
    obtain ⟨a1, a2, a3, a4⟩ := fresh_env (vs := cutV vs lo hi) env3 hp
    exact w3 F3 _ a1 a2 p _ (((st1.trans st2).trans st3).hn hp) a3 a4 upd_same rr
  | _ => exact w3.elim
/-- xs[::-1] of a list, fresh -/
def revF (m : DEnv → Res D) : DEnv → Res (List D) := fun Δ => (m Δ).bind fun d Δ1 => match d with
  | .lst ds => .ok ds.reverse Δ1
  | _ => .stuck
theorem f_rev {k : Nat} {p1 p2 p3 : Pos} (h : DE X L W e me) (hk : L.K = X.K := by rfl) : DF X L W (.Subscript e (.Slice none none (some (.UnaryOp .USub (.Constant (.int 1) k p1) p2)) p3) pos) (revF me) := by
  obtain ⟨_, q1, s1⟩ := h.ex
  refine ⟨_, pe_revL q1, fun σ Δ F H Q env w => ?_⟩
  refine s1 σ Δ F H _ env ?_
  replace w : Want L W σ Δ F H ((me Δ).bind fun d Δ1 => match d with | .lst ds => .ok ds.reverse Δ1 | _ => .stuck) _ := w
  refine Want.keep (w.bind.mono fun d Δ1 F1 H1 env1 w1 st1 v r => ?_)
  cases d with
  | lst ds =>
    obtain ⟨a, vs, rfl, h1, h2⟩ := rep_ref_lst r
    refine ⟨a, vs, rfl, SqL.of (env1.ex _ _ h1), fun p hp => ?_⟩
    obtain ⟨a1, a2, a3, a4⟩ := fresh_env (vs := vs.reverse) env1 hp
    exact w1 F1 _ a1 a2 p _ (st1.hn hp) a3 a4 upd_same h2.reverse
  | _ => exact w1.elim
/-! ### count -/
def scountD : Str → D → Option D := fun z y => match y with
  | .str c => some (.int (Txt.count z c))
  | _ => none
theorem sm_count : SM1 L (fun x xs H Q => ∃ a b, x = .str a ∧ xs = [.str b] ∧ Q (.int (Txt.count a b)) H) scountD := by
  intro F H z y dy d Q ex hf ry q
  unfold scountD at hf
  split at hf
  · cases hf; exact ⟨z, _, rfl, by rw [ry.str], q _ F H (.refl ex) (.int _)⟩
  · cases hf
/-! ### sorted -/
def rSortD (K : PySem.W.Frag) : List V → Hp → VK → Prop := fun xs H Q => ∃ (a : Addr) (vs : List V) (ds : List D), xs = [.ref a] ∧ SqL K H a vs ∧ DpAll K H vs (ds.map pyOf) ∧ vs.length = ds.length ∧ PySem.W.AllAlike (ds.map pyOf) ∧ PySem.W.Sortable (ds.map pyOf) ∧ ds.length ≤ sizeLine ∧ (∀ d ∈ ds, (pyOf d).depth ≤ 60) ∧
  ∀ p, H p = none → Q (.ref p) (upd H p (.lst (((vs.zip ds).mergeSort (PySem.W.dataLe false fun q => pyOf q.2)).map Prod.fst)))
open PySem.W PyProof.Rows in
theorem each_zip {h : Heap} : ∀ {vs : List V} {its : List Value} {ds : List D} {as : List Addr}, Vals vs its → ReadsAll h its (ds.map pyOf) as → vs.length = ds.length →
    EachIs (fun (u : Value) (q : V × D) => RelV q.1 u) its (vs.zip ds) ∧ EachIs (fun (u : Value) (q : V × D) => ∃ as, Reads h u (pyOf q.2) as) its (vs.zip ds)
  | [], [], [], _, _, _, _ => ⟨.nil, .nil⟩
  | v :: vs, u :: us, d :: ds, _, .cons r rs, .cons h1 h2, hl => by
    obtain ⟨e1, e2⟩ := each_zip rs h2 (by simpa using hl)
    exact ⟨.cons r e1, .cons ⟨_, h1⟩ e2⟩
  | [], [], _ :: _, _, _, _, hl => by simp at hl
  | _ :: _, _ :: _, [], _, _, _, hl => by simp at hl
open PySem.W PyProof.Rows in
theorem vals_each : ∀ {qs : List (V × D)} {out : List Value}, EachIs (fun (u : Value) (q : V × D) => RelV q.1 u) out qs → Vals (qs.map Prod.fst) out
  | [], _, .nil => .nil
  | q :: qs, _, .cons h t => .cons h (vals_each t)
theorem call_sortD (hu : X.A.units + 64 < cLine) : CallR X (.builtin "sorted") (rSortD X.K) := by
  intro pins s σ H xs us Q I r h
  obtain ⟨a, vs, ds, rfl, hs, hp, hl, ha, hk, hn, hd, q⟩ := h
  rw [Vals.ref1 r]
  obtain ⟨its, rv, p, hz⟩ := I.list hs
  obtain ⟨as, hr⟩ := Dp.readsAll I _ vs its hp rv
  obtain ⟨e1, e2⟩ := each_zip rv hr hl
  have em : (vs.zip ds).map (fun q => pyOf q.2) = ds.map pyOf := by
    show (vs.zip ds).map (pyOf ∘ Prod.snd) = _
    rw [← List.map_map, List.map_snd_zip (by omega)]
  have hlz : (vs.zip ds).length = ds.length := by rw [List.length_zip]; omega
  refine PySem.W.sorted_data (enc := fun q : V × D => pyOf q.2) (bs := vs.zip ds) p.isList e1 e2 (by rw [em]; exact ha) (by rw [em]; exact hk) (by rw [hlz]; exact hn) (fun b hb => ?_) fun out ho hout => ?_
  · have hb2 : b.2 ∈ ds := (List.of_mem_zip hb).2
    have := hd _ hb2
    omega
  · obtain ⟨ep, he'⟩ := PyProof.Rows.sortedAll_at s.heap its out.toArray
    have rv2 := vals_each hout
    have hlen : (((vs.zip ds).mergeSort (PySem.W.dataLe false fun q => pyOf q.2)).map Prod.fst).length ≤ sizeLine := by rw [rv2.length, ho, hlz]; exact hn
    exact ⟨.ref _, upd H (s.heap.objs.size + 1) (.lst _), I.laid (t' := s.toks) (fun _ _ => PyProof.Rows.sortedAll_old) (Nat.le_succ _) ⟨hlen, out, ep, rv2, he'⟩, rfl, q _ (I.hok.fresh (Nat.le_succ _))⟩
def leD' (x y : D) : Bool := PySem.W.dataLe false pyOf x y
/-- all data, alike, with an order -/
def sortOkB (ds : List D) : Bool := ds.all fun d => (toPy d).isSome && decide ((pyOf d).depth ≤ 60) && (ds.all fun e => PySem.W.alike (pyOf d) (pyOf e))
def tup1 : PyData → Bool
  | .tuple (_ :: _) => true
  | _ => false
def noTup : PyData → Bool
  | .tuple _ => false
  | .none => false
  | _ => true
def sortL (ds : List D) : Option (List D) := if sortOkB ds = true ∧ ((ds.all fun d => tup1 (pyOf d)) = true ∨ (ds.all fun d => noTup (pyOf d)) = true) ∧ ds.length ≤ 16777216 then some (ds.mergeSort (PySem.W.dataLe false pyOf)) else none
def sortF : D → Option (List D)
  | .lst ds => sortL ds
  | _ => none
theorem sort_reps {vs : List V} {ds : List D} (h : Reps L.K F vs ds) : Reps L.K F (((vs.zip ds).mergeSort (PySem.W.dataLe false fun q => pyOf q.2)).map Prod.fst) (ds.mergeSort (PySem.W.dataLe false pyOf)) := by
  have e : ds.mergeSort (PySem.W.dataLe false pyOf) = ((vs.zip ds).mergeSort (PySem.W.dataLe false fun q => pyOf q.2)).map Prod.snd := by
    rw [List.map_mergeSort (f := Prod.snd) (s := PySem.W.dataLe false pyOf) (r := PySem.W.dataLe false fun q : V × D => pyOf q.2) (l := vs.zip ds) (fun a _ b _ => rfl), List.map_snd_zip (by rw [h.1]; exact Nat.le_refl _)]
  rw [e]
  refine ⟨by rw [List.length_map, List.length_map], fun i v d h1 h2 => ?_⟩
  rw [List.getElem?_map] at h1 h2
  cases q : ((vs.zip ds).mergeSort (PySem.W.dataLe false fun q => pyOf q.2))[i]? with
  | none => rw [q] at h1; cases h1
  | some z =>
    rw [q] at h1 h2; cases h1; cases h2
    have hm : z ∈ vs.zip ds := List.mem_mergeSort.mp (List.mem_of_getElem? q)
    obtain ⟨j, hj⟩ := List.mem_iff_getElem?.mp hm
    obtain ⟨g1, g2⟩ := List.getElem?_zip_eq_some.mp hj
    exact h.2 j _ _ g1 g2
theorem f_sorted {y : Str} (hu : X.A.units + 64 < cLine) (hg : Gl X y) (hy : y = "sorted") (hm : X.mg y = none) (hv : bootBuiltins y = some (.builtin "sorted")) (hn : y ≠ "__name__") (hdb : (y == ("__debug__" : Str)) = false) (h : DR X L W e me)
    (hst : starEach (e :: []) X.env = (false, eval e X.env) :: starEach [] X.env := by rfl) (hpl : (backTo pos (starEach [] X.env)).any (·.1) = false := by rfl) (hk : L.K = X.K := by rfl) : DF X L W (.Call (.Name y p) [e] [] pos) (callF1 sortF me) := by
  obtain ⟨te, p1, s1⟩ := h.ex
  refine ⟨_, pe_callB (call_sortD hu) hg hm hv (pa_cons p1 pa_nil hst) hn hdb hst hpl, fun σ Δ F H Q env w => ?_⟩
  refine s1 σ Δ F H _ env ?_
  replace w : Want L W σ Δ F H ((me Δ).bind fun d Δ1 => .opt (sortF d) Δ1) _ := w
  refine Want.keep (w.bind.mono fun d Δ1 F1 H1 env1 w1 st1 v r => ?_)
  cases q2 : sortF d with
  | none => rw [q2] at w1; exact w1.elim
  | some zs =>
    rw [q2] at w1
    cases d with
    | lst ds =>
      replace q2 : (if sortOkB ds = true ∧ ((ds.all fun d => tup1 (pyOf d)) = true ∨ (ds.all fun d => noTup (pyOf d)) = true) ∧ ds.length ≤ 16777216 then some (ds.mergeSort (PySem.W.dataLe false pyOf)) else none) = some zs := q2
      split at q2
      · rename_i hc
        cases q2
        obtain ⟨c1, c2, c3⟩ := hc
        have cc : ∀ d ∈ ds, toPy d = some (pyOf d) ∧ (pyOf d).depth ≤ 60 ∧ ∀ e ∈ ds, PySem.W.alike (pyOf d) (pyOf e) = true := fun d hd => by
          have h1 := List.all_eq_true.mp c1 d hd
          simp only [Bool.and_eq_true] at h1
          obtain ⟨⟨h2, h3⟩, h4⟩ := h1
          refine ⟨?_, of_decide_eq_true h3, fun e he => List.all_eq_true.mp h4 e he⟩
          obtain ⟨p, hp⟩ := Option.isSome_iff_exists.mp h2
          unfold pyOf; rw [hp]; rfl
        obtain ⟨a, vs, rfl, h1, h2⟩ := r.lst env1.ex
        refine ⟨a, vs, ds, rfl, hk ▸ SqL.of h1, ?_, h2.1, ?_, ?_, by rw [line_eq]; exact c3, fun d hd => (cc d hd).2.1, fun pp hp => ?_⟩
        · rw [← hk]; exact toPys_dp (L := L) env1.ex ds vs _ h2 (toPys_map fun d hd => (cc d hd).1)
        · intro x hx y hy
          obtain ⟨d, hd, rfl⟩ := List.mem_map.mp hx
          obtain ⟨e, he, rfl⟩ := List.mem_map.mp hy
          exact (cc d hd).2.2 e he
        · rcases c2 with c2 | c2
          · refine .inl fun x hx => ?_
            obtain ⟨d, hd, rfl⟩ := List.mem_map.mp hx
            have := List.all_eq_true.mp c2 d hd
            revert this
            cases pyOf d with
            | tuple xs => cases xs with
              | nil => intro z; cases z
              | cons y ys => intro _; exact ⟨y, ys, rfl⟩
            | _ => intro z; cases z
          · refine .inr fun x hx => ?_
            obtain ⟨d, hd, rfl⟩ := List.mem_map.mp hx
            have := List.all_eq_true.mp c2 d hd
            revert this
            cases pyOf d with
            | tuple xs => intro z; cases z
            | none => intro z; cases z
            | _ => intro _; exact ⟨(nofun), (nofun)⟩
        · obtain ⟨a1, a2, a3, a4⟩ := fresh_env (vs := ((vs.zip ds).mergeSort (PySem.W.dataLe false fun q => pyOf q.2)).map Prod.fst) env1 hp
          exact w1 F1 _ a1 a2 pp _ (st1.hn hp) a3 a4 upd_same (sort_reps h2)
      · cases q2
    | _ => cases q2
end
end KL
/-! KL, part t: op=, stores at a place of an own list, extend, pop(i). -/
namespace KL
open PySem L2
section
variable {X : Cx} {L : Lx} {W : WX} {σ : L2.St} {Δ : DEnv} {F H : Hp} {e e2 a b c : Expr} {es : List Expr} {me ma mb mc : DEnv → Res D} {p pos pos' tpos : Pos} {x : Str} {i kk : Nat}
theorem own_list {Δ : DEnv} {xs : List D} (env : EnvOk L F σ Δ H) (h : getL Δ i = some xs) : ∃ a vs, slot σ i = some (.ref a) ∧ H a = some (.lst vs) ∧ F a = none ∧ Reps L.K F vs xs := env.getL h
/-! ### name op= e, no list -/
def augM (f : D → D → Option D) (i : Nat) (me : DEnv → Res D) : DEnv → SRes := fun Δ => match rdR Δ i with
  | none => .stuck
  | some _ => (me Δ).s fun y Δ1 => match (rdR Δ1 i).bind fun x => f x y with
    | some d => setM i d Δ1
    | none => .stuck
theorem s_aug {op : Operator} {r : R2} {f : D → D → Option D} (ho : OpR X (inplaceOp op) r) (hf : OpS L r f) (hN : X.N.Nodup) (hi : X.N[i]? = some x) (hx : Loc X.env.scope x) (h : DE X L W e me)
    (hfn : X.fn x = true ∨ X.env.scope.names.lookup x = some .local := by first | exact .inl rfl | exact .inr rfl | assumption) : DS X L W (.AugAssign (.Name x pos') op e pos) (augM f i me) := by
  obtain ⟨te, p1, s1⟩ := h.ex
  refine ⟨_, ps_aug (ti := r) hN hi hx p1 ho hfn, fun σ Δ F H E env w => ?_⟩
  unfold augM at w
  cases q0 : rdR Δ i with
  | none => rw [q0] at w; exact w.elim
  | some d0 =>
    rw [q0] at w
    obtain ⟨v, e1, _⟩ := env.rd q0
    replace w : WantS L W σ Δ F H ((me Δ).s fun y Δ1 => match (rdR Δ1 i).bind fun x => f x y with | some d => setM i d Δ1 | none => .stuck) E := w
    refine ⟨v, slot_some e1, s1 σ Δ F H _ env ((Want.ofS w).mono fun y Δ1 F1 H1 env1 w1 u ru => ?_)⟩
    cases q1 : rdR Δ1 i with
    | none => rw [q1] at w1; exact w1.elim
    | some x =>
      rw [q1, Option.bind_some] at w1
      obtain ⟨v', e2, rv⟩ := env1.rd q1
      rw [e1] at e2; cases e2
      cases g : f x y with
      | none => rw [g] at w1; exact w1.elim
      | some d =>
        rw [g] at w1
        refine hf F1 H1 v u x y d _ env1.ex g rv ru.r fun z F2 H2 gr rz => ?_
        replace w1 : WantS L W σ Δ1 F1 H1 (setM i d Δ1) E := w1
        unfold setM at w1
        split at w1
        · rename_i hc
          have env2 := env1.gro gr
          exact w1 _ F2 H2 (env2.setC hc ⟨z, rfl, rz⟩ fun xs a h _ => by cases h) (Step.setC (.gro gr) env2.len hc (fun xs h => by cases h) fun xs h => by cases h)
        · exact w1.elim
def rIAdd : R2 := fun x y H Q => rI0 (fun i j => .int (i + j)) x y H Q ∨ ∃ i j, x = .str i ∧ y = .str j ∧ i.length + j.length ≤ sizeLine ∧ Q (.str (i ++ j)) H
theorem iop_addA : OpR X (inplaceOp .Add) rIAdd := opr_or iop_add iop_add_str
def iaddD : D → D → Option D
  | .int i, .int j => some (.int (i + j))
  | .str x, .str y => if x.length + y.length ≤ 16777216 then some (.str (x ++ y)) else none
  | _, _ => none
theorem ops_iadd : OpS L rIAdd iaddD := by
  intro F H x y dx dy d Q ex hf rx ry q
  unfold iaddD at hf
  split at hf
  · cases hf; rw [rx.int, ry.int]; exact .inl ⟨_, _, rfl, rfl, q _ F H (.refl ex) (.int _)⟩
  · split at hf
    · rename_i hl; cases hf; rw [rx.str, ry.str]; exact .inr ⟨_, _, rfl, rfl, by rw [line_eq]; exact hl, q _ F H (.refl ex) (.str _)⟩
    · cases hf
  · cases hf
/-! ### own list += e -/
def lstOf : D → Option (List D)
  | .lst ds => some ds
  | _ => none
def extM (i : Nat) (me : DEnv → Res D) : DEnv → SRes := fun Δ => match getL Δ i with
  | none => .stuck
  | some _ => (me Δ).s fun d Δ1 => match getL Δ1 i, lstOf d with
    | some xs, some ys => if xs.length + ys.length ≤ 16777216 then .nx (setL Δ1 i (xs ++ ys)) else .stuck
    | _, _ => .stuck
theorem set_same {σ : L2.St} {v : V} (h : slot σ i = some v) : σ.set i (some v) = σ := by
  have := slot_some h
  apply List.ext_getElem?
  intro j
  by_cases hj : i = j
  · subst hj
    rw [List.getElem?_set_self (List.getElem?_eq_some_iff.mp this).1, this]
  · rw [List.getElem?_set_ne hj]
theorem s_ext (hN : X.N.Nodup) (hi : X.N[i]? = some x) (hx : Loc X.env.scope x) (h : DE X L W e me)
    (hfn : X.fn x = true ∨ X.env.scope.names.lookup x = some .local := by first | exact .inl rfl | exact .inr rfl | assumption) : DS X L W (.AugAssign (.Name x pos') .Add e pos) (extM i me) := by
  obtain ⟨te, p1, s1⟩ := h.ex
  refine ⟨_, ps_aug (ti := rExt2) hN hi hx p1 iop_ext hfn, fun σ Δ F H E env w => ?_⟩
  unfold extM at w
  cases q0 : getL Δ i with
  | none => rw [q0] at w; exact w.elim
  | some d0 =>
    rw [q0] at w
    obtain ⟨a, us, e1, _⟩ := env.getL q0
    refine ⟨.ref a, slot_some e1, s1 σ Δ F H _ env ((Want.ofS w).mono fun d Δ1 F1 H1 env1 w1 u ru => ?_)⟩
    cases q1 : getL Δ1 i with
    | none => rw [q1] at w1; exact w1.elim
    | some xs =>
      obtain ⟨a', vs, e2, h2, h3, h4⟩ := env1.getL q1
      rw [e1] at e2; cases e2
      rw [q1] at w1
      cases d with
      | lst ys =>
        replace w1 : WantS L W σ Δ1 F1 H1 (if xs.length + ys.length ≤ 16777216 then .nx (setL Δ1 i (xs ++ ys)) else .stuck) E := w1
        split at w1
        · rename_i hl
          obtain ⟨b, ws, rfl, g1, g2⟩ := rep_ref_lst ru
          obtain ⟨env2, st2⟩ := env1.mut q1 e1 h2 h3 (h4.append g2)
          refine ⟨a, b, vs, ws, rfl, rfl, h2, env1.ex _ _ g1, by rw [line_eq, h4.1, g2.1]; exact hl, ?_⟩
          show E.nx (σ.set i (some (.ref a))) _
          rw [set_same e1]
          exact w1 σ F1 _ env2 st2
        · exact w1.elim
      | _ => exact w1.elim
/-- own list.extend(e) -/
def extendM (i : Nat) (me : DEnv → Res D) : DEnv → Res D := fun Δ => match getL Δ i with
  | none => .stuck
  | some _ => (me Δ).bind fun d Δ1 => match getL Δ1 i, lstOf d with
    | some xs, some ys => gd (decide (xs.length + ys.length ≤ 16777216)) (.ok .non (setL Δ1 i (xs ++ ys)))
    | _, _ => .stuck
theorem d_extend {n : Str} {apos : Pos} (hnm : n = "extend") (hN : X.N[i]? = some x) (hv : Vis X.env.scope x) (hd : (x == ("__debug__" : Str)) = false) (hcd : (x == ("__classdict__" : Str)) = false) (h : DE X L W e me)
    (hbase : attributeBase (.Name x p) n X.env (eval (.Name x p) X.env) = eval (.Name x p) X.env := by rfl)
    (hfew : ((backTo pos (starEach (e :: []) X.env)).all (fun x => !x.1) && (backToKw pos (keywordEach [] X.env)).all (fun x => x.1.isSome) && decide ((e :: []).length + ([] : List Keyword).length + (if ([] : List Keyword).isEmpty then 0 else 1) < 30)) = true := by rfl)
    (hline : (apos.endLine == pos.line) = true := by rfl) (hs : starEach (e :: []) X.env = (false, eval e X.env) :: starEach [] X.env := by rfl) (hplain : (backTo pos (starEach [] X.env)).any (·.1) = false := by rfl) (hk : L.K = X.K := by rfl) :
    DE X L W (.Call (.Attribute (.Name x p) n apos) [e] [] pos) (extendM i me) := by
  subst hnm
  obtain ⟨_, p1, s1⟩ := h.ex
  refine ⟨_, pe_bm PySem.F.plainAttrs_list PySem.F.slot_list_extend PySem.F.type_list_extend mt_extend (pe_var hN hv hd hcd) (pa_cons p1 pa_nil hs) hbase hfew hline hs hplain, ?_⟩
  rw [← hk]
  intro σ Δ F H Q env w
  unfold extendM at w
  cases q : getL Δ i with
  | none => rw [q] at w; exact w.elim
  | some ys =>
    rw [q] at w
    obtain ⟨a, us, e1, e2, e3, e4, ty⟩ := tyV_own env q
    refine ⟨.ref a, slot_some e1, ty, s1 σ Δ F H _ env (w.bind.mono fun d Δ1 F1 H1 env1 w1 v r => ?_)⟩
    cases q1 : getL Δ1 i with
    | none => rw [q1] at w1; exact w1.elim
    | some xs =>
      rw [q1] at w1
      obtain ⟨b, vs, g1, g2, g3, g4⟩ := env1.getL q1
      rw [e1] at g1; cases g1
      cases d with
      | lst zs =>
        replace w1 : Want L W σ Δ1 F1 H1 (gd (decide (xs.length + zs.length ≤ 16777216)) (.ok D.non (setL Δ1 i (xs ++ zs)))) _ := w1
        unfold gd at w1
        split at w1
        · rename_i hl
          obtain ⟨b, ws, rfl, k1, k2⟩ := rep_ref_lst r
          obtain ⟨env2, st2⟩ := env1.mut q1 e1 g2 g3 (g4.append k2)
          exact ⟨a, b, vs, ws, rfl, rfl, g2, env1.ex _ _ k1, by rw [line_eq, g4.1, k2.1]; exact of_decide_eq_true hl, w1 F1 _ env2 st2 _ Rep.non⟩
        · exact w1.elim
      | _ => exact w1.elim
/-- own list.pop(e) -/
def popAtM (i : Nat) (me : DEnv → Res D) : DEnv → Res D := fun Δ => match getL Δ i with
  | none => .stuck
  | some _ => (me Δ).bind fun d Δ1 => match getL Δ1 i, d with
    | some xs, .int k => if -4611686018427387904 ≤ k ∧ k < 4611686018427387904 then (match seqIndex? k xs.length with
      | some j => (match xs[j]? with
        | some y => .ok y (setL Δ1 i (xs.eraseIdx j))
        | none => .stuck)
      | none => .stuck) else .stuck
    | _, _ => .stuck
theorem Reps.eraseIdx {vs : List V} {ds : List D} (h : Reps L.K F vs ds) (j : Nat) : Reps L.K F (vs.eraseIdx j) (ds.eraseIdx j) := by
  rw [List.eraseIdx_eq_take_drop_succ, List.eraseIdx_eq_take_drop_succ]
  exact (h.take j).append (h.drop (j + 1))
theorem d_popAt {n : Str} {apos : Pos} (hnm : n = "pop") (hN : X.N[i]? = some x) (hv : Vis X.env.scope x) (hd : (x == ("__debug__" : Str)) = false) (hcd : (x == ("__classdict__" : Str)) = false) (h : DE X L W e me)
    (hbase : attributeBase (.Name x p) n X.env (eval (.Name x p) X.env) = eval (.Name x p) X.env := by rfl)
    (hfew : ((backTo pos (starEach (e :: []) X.env)).all (fun x => !x.1) && (backToKw pos (keywordEach [] X.env)).all (fun x => x.1.isSome) && decide ((e :: []).length + ([] : List Keyword).length + (if ([] : List Keyword).isEmpty then 0 else 1) < 30)) = true := by rfl)
    (hline : (apos.endLine == pos.line) = true := by rfl) (hs : starEach (e :: []) X.env = (false, eval e X.env) :: starEach [] X.env := by rfl) (hplain : (backTo pos (starEach [] X.env)).any (·.1) = false := by rfl) (hk : L.K = X.K := by rfl) :
    DE X L W (.Call (.Attribute (.Name x p) n apos) [e] [] pos) (popAtM i me) := by
  subst hnm
  obtain ⟨_, p1, s1⟩ := h.ex
  refine ⟨_, pe_bm PySem.F.plainAttrs_list PySem.F.slot_list_pop PySem.F.type_list_pop mt_popAt (pe_var hN hv hd hcd) (pa_cons p1 pa_nil hs) hbase hfew hline hs hplain, ?_⟩
  rw [← hk]
  intro σ Δ F H Q env w
  unfold popAtM at w
  cases q : getL Δ i with
  | none => rw [q] at w; exact w.elim
  | some ys =>
    rw [q] at w
    obtain ⟨a, us, e1, e2, e3, e4, ty⟩ := tyV_own env q
    refine ⟨.ref a, slot_some e1, ty, s1 σ Δ F H _ env (w.bind.mono fun d Δ1 F1 H1 env1 w1 v r => ?_)⟩
    cases q1 : getL Δ1 i with
    | none => rw [q1] at w1; exact w1.elim
    | some xs =>
      rw [q1] at w1
      obtain ⟨b, vs, g1, g2, g3, g4⟩ := env1.getL q1
      rw [e1] at g1; cases g1
      cases d with
      | int k =>
        cases r
        replace w1 : Want L W σ Δ1 F1 H1 (if -4611686018427387904 ≤ k ∧ k < 4611686018427387904 then (match seqIndex? k xs.length with | some j => (match xs[j]? with | some y => Res.ok y (setL Δ1 i (xs.eraseIdx j)) | none => .stuck) | none => .stuck) else .stuck) _ := w1
        split at w1
        · rename_i hl
          cases q2 : seqIndex? k xs.length with
          | none => rw [q2] at w1; exact w1.elim
          | some j =>
            rw [q2] at w1
            replace w1 : Want L W σ Δ1 F1 H1 (match xs[j]? with | some y => Res.ok y (setL Δ1 i (xs.eraseIdx j)) | none => .stuck) _ := w1
            cases q3 : xs[j]? with
            | none => rw [q3] at w1; exact w1.elim
            | some y =>
              rw [q3] at w1
              obtain ⟨u, k1, k2⟩ := g4.get q3
              obtain ⟨env2, st2⟩ := env1.mut q1 e1 g2 g3 (g4.eraseIdx j)
              exact ⟨a, vs, k, j, u, rfl, rfl, g2, by omega, by omega, by rw [g4.1]; exact q2, k1, w1 F1 _ env2 st2 _ k2⟩
        · exact w1.elim
      | _ => exact w1.elim
/-! ### xs[i] = v, xs[i] op= v -/
def putM (i : Nat) (mi mv : DEnv → Res D) : DEnv → SRes := fun Δ => (mv Δ).s fun v Δ1 => match getL Δ1 i with
  | none => .stuck
  | some _ => (mi Δ1).s fun k Δ2 => match getL Δ2 i, k with
    | some xs, .int j => match ixN xs.length j with
      | some n => .nx (setL Δ2 i (xs.set n v))
      | none => .stuck
    | _, _ => .stuck
theorem s_put {mi mv : DEnv → Res D} {v ix : Expr} (hN : X.N[i]? = some x) (hv : Vis X.env.scope x) (hd : (x == ("__debug__" : Str)) = false) (hcd : (x == ("__classdict__" : Str)) = false) (h : DE X L W v mv) (h2 : DE X L W ix mi)
    (ha : ∀ v, assign (.Subscript (.Name x p) ix tpos) X.env v = (do
      let ov ← holding [v] (eval (.Name x p) X.env)
      let iv ← holding [v, ov] (eval ix X.env)
      standAt tpos
      holding [v, ov, iv] (setItem ov iv v)
      release [v, ov, iv] []) := by intro _; rfl)
    (hs : swapsWithSole [.Subscript (.Name x p) ix tpos] v pos.line X.env = pure false := by rfl) (hw : swappedStores [.Subscript (.Name x p) ix tpos] v X.env = pure none := by rfl)
    (h1 : (assignEach [.Subscript (.Name x p) ix tpos] X.env).map (·.2) = [assign (.Subscript (.Name x p) ix tpos) X.env] := by rfl) : DS X L W (.Assign [.Subscript (.Name x p) ix tpos] v pos) (putM i mi mv) := by
  obtain ⟨_, p1, s1⟩ := h.ex
  obtain ⟨_, p2, s2⟩ := h2.ex
  refine ⟨_, ps_asg p1 (pg_sub (pe_var hN hv hd hcd) p2 set_list ha) hs hw h1, fun σ Δ F H E env w => ?_⟩
  replace w : WantS L W σ Δ F H ((mv Δ).s fun v Δ1 => match getL Δ1 i with | none => .stuck | some _ => (mi Δ1).s fun k Δ2 => match getL Δ2 i, k with | some xs, .int j => (match ixN xs.length j with | some n => .nx (setL Δ2 i (xs.set n v)) | none => .stuck) | _, _ => .stuck) E := w
  refine s1 σ Δ F H _ env ((Want.ofS w).mono fun d Δ1 F1 H1 env1 w1 u ru => ?_)
  cases q1 : getL Δ1 i with
  | none => rw [q1] at w1; exact w1.elim
  | some ys =>
    rw [q1] at w1
    obtain ⟨a, us, e1, _⟩ := env1.getL q1
    refine ⟨.ref a, slot_some e1, s2 σ Δ1 F1 H1 _ env1 (Want.keep ((Want.ofS w1).mono fun k Δ2 F2 H2 env2 w2 st2 z rz => ?_))⟩
    cases q2 : getL Δ2 i with
    | none => rw [q2] at w2; exact w2.elim
    | some xs =>
      obtain ⟨b, vs, g1, g2, g3, g4⟩ := env2.getL q2
      rw [e1] at g1; cases g1
      rw [q2] at w2
      cases k with
      | int j =>
        cases rz
        replace w2 : WantS L W σ Δ2 F2 H2 (match ixN xs.length j with | some n => .nx (setL Δ2 i (xs.set n d)) | none => .stuck) E := w2
        cases q3 : ixN xs.length j with
        | none => rw [q3] at w2; exact w2.elim
        | some n =>
          rw [q3] at w2
          obtain ⟨env3, st3⟩ := env2.mut q2 e1 g2 g3 (g4.set n (ru.mono st2.fr))
          exact ⟨a, vs, j, n, rfl, rfl, g2, by rw [g4.1]; exact q3, w2 σ F2 _ env3 st3⟩
      | _ => exact w2.elim
/-- own list[i] op= e -/
def rGetL : V → V → Hp → VK → Prop := fun o i H Q => ∃ p xs k y, o = .ref p ∧ i = .int k ∧ H p = some (.lst xs) ∧ atI xs k = some y ∧ Q y H
theorem get_listP : PGet X rGetL := by
  intro pins s σ H o i ov iv Q I ro ri h
  obtain ⟨p, xs, k, y, rfl, rfl, hp, hy, q⟩ := h
  cases ro
  obtain ⟨t, rfl⟩ := ri
  obtain ⟨its, r, pl, hz⟩ := I.list (SqL.of hp)
  obtain ⟨j, h1, h2, h3, h4, h5⟩ := atI_get hy
  obtain ⟨w, ew, rw'⟩ := r.get h2
  have hl := r.length
  have hn := line63
  have fin : EP X pins σ Q w s := ⟨y, H, I, rw', q⟩
  by_cases h0 : 0 ≤ k
  · have hj : k.toNat = j := by
      rw [seqIndex_of h0 h5] at h1
      exact Option.some.inj h1
    exact wpAny_getItem_list pl.isList h0 (by omega) (by rw [hj]; simpa using ew) fin
  · have hj : (k + (its.toArray.size : Int)).toNat = j := by
      rw [seqIndex_neg (by omega) h4] at h1
      rw [List.size_toArray, ← hl]
      exact Option.some.inj h1
    exact wpAny_getItem_list_neg pl.isList (by omega) (by rw [List.size_toArray] <;> omega) (by omega) (by rw [hj]; simpa using ew) fin
def putL (i : Nat) (xs : List D) (j : Int) (d : D) (Δ : DEnv) : SRes := match ixN xs.length j with
  | none => .stuck
  | some n => .nx (setL Δ i (xs.set n d))
def aug2 (f : D → D → Option D) (i : Nat) (j : Int) (y z : D) (Δ2 : DEnv) : SRes := match getL Δ2 i with
  | none => .stuck
  | some xs => match f y z with
    | none => .stuck
    | some d => putL i xs j d Δ2
def aug1 (f : D → D → Option D) (i : Nat) (me : DEnv → Res D) (k : D) (Δ1 : DEnv) : SRes := match getL Δ1 i with
  | none => .stuck
  | some xs => match k with
    | .int j => (match atI xs j with
      | none => .stuck
      | some y => (me Δ1).s (aug2 f i j y))
    | _ => .stuck
def augPutM (f : D → D → Option D) (i : Nat) (mi me : DEnv → Res D) : DEnv → SRes := fun Δ => match getL Δ i with
  | none => .stuck
  | some _ => (mi Δ).s (aug1 f i me)
theorem s_augPut {op : Operator} {r : R2} {f : D → D → Option D} {mi : DEnv → Res D} {ix : Expr} (ho : OpR X (inplaceOp op) r) (hf : OpS L r f) (hN : X.N[i]? = some x) (hv : Vis X.env.scope x) (hd : (x == ("__debug__" : Str)) = false) (hcd : (x == ("__classdict__" : Str)) = false) (h : DE X L W ix mi) (h2 : DE X L W e me)
    (ha : ∀ ov iv new, augStore ix ov iv new = (do holding [new, ov, iv] (setItem ov iv new); release [new, ov, iv] []; pure .next) := by intros; rfl) : DS X L W (.AugAssign (.Subscript (.Name x p) ix tpos) op e pos) (augPutM f i mi me) := by
  obtain ⟨_, p1, s1⟩ := h.ex
  obtain ⟨_, p2, s2⟩ := h2.ex
  refine ⟨_, ps_augS (tip := r) (pe_var hN hv hd hcd) p1 get_listP p2 ho set_list ha, fun σ Δ F H E env w => ?_⟩
  unfold augPutM at w
  cases q0 : getL Δ i with
  | none => rw [q0] at w; exact w.elim
  | some ys =>
    rw [q0] at w
    obtain ⟨a, us, e1, _⟩ := env.getL q0
    refine ⟨.ref a, slot_some e1, s1 σ Δ F H _ env ((Want.ofS w).mono fun k Δ1 F1 H1 env1 w1 z rz => ?_)⟩
    unfold aug1 at w1
    cases q1 : getL Δ1 i with
    | none => rw [q1] at w1; exact w1.elim
    | some xs =>
      obtain ⟨b, vs, g1, g2, g3, g4⟩ := env1.getL q1
      rw [e1] at g1; cases g1
      rw [q1] at w1
      cases k with
      | int j =>
        cases rz
        replace w1 : WantS L W σ Δ1 F1 H1 (match atI xs j with | none => .stuck | some y => (me Δ1).s (aug2 f i j y)) E := w1
        cases q2 : atI xs j with
        | none => rw [q2] at w1; exact w1.elim
        | some y =>
          rw [q2] at w1
          obtain ⟨v, hv1, hv2⟩ := atI_reps g4 q2
          refine ⟨a, vs, j, v, rfl, rfl, g2, hv1, ?_⟩
          refine s2 σ Δ1 F1 H1 _ env1 (Want.keep ((Want.ofS w1).mono fun z Δ2 F2 H2 env2 w2 st2 u ru => ?_))
          unfold aug2 at w2
          cases q3 : getL Δ2 i with
          | none => rw [q3] at w2; exact w2.elim
          | some xs2 =>
            rw [q3] at w2
            replace w2 : WantS L W σ Δ2 F2 H2 (match f y z with | none => .stuck | some d => putL i xs2 j d Δ2) E := w2
            cases q4 : f y z with
            | none => rw [q4] at w2; exact w2.elim
            | some d =>
              rw [q4] at w2
              replace w2 : WantS L W σ Δ2 F2 H2 (match ixN xs2.length j with | none => .stuck | some n => .nx (setL Δ2 i (xs2.set n d))) E := w2
              cases q5 : ixN xs2.length j with
              | none => rw [q5] at w2; exact w2.elim
              | some n =>
                rw [q5] at w2
                refine hf F2 H2 v u y z d _ env2.ex q4 (hv2.mono st2.fr).r ru.r fun t F3 H3 gr rt => ?_
                obtain ⟨c1, vs3, m1, m2, m3, m4⟩ := (env2.gro gr).getL q3
                rw [e1] at m1; cases m1
                obtain ⟨env4, st4⟩ := (env2.gro gr).mut q3 e1 m2 m3 (m4.set n rt)
                exact ⟨a, vs3, j, n, rfl, rfl, m2, by rw [m4.1]; exact q5, w2 σ F3 _ env4 ((Step.gro gr).trans st4)⟩
      | _ => exact w1.elim
end
end KL
/-! KL, part u: dicts of the module, keyed by texts; blocks within blocks. -/
namespace KL
open PySem L2
/-- a value of the written part is that data -/
def KVal (K : PySem.W.Frag) (u : Value) (y : D) : Prop := ∃ v, RelV v u ∧ ∀ F, Rep K F v y
theorem kv_str {K : PySem.W.Frag} {x : Str} {t : Tok} : KVal K (.str x t) (.str x) := ⟨.str x, ⟨t, rfl⟩, fun _ => .str x⟩
theorem kv_int {K : PySem.W.Frag} {i : Int} {t : Tok} : KVal K (.int i t) (.int i) := ⟨.int i, ⟨t, rfl⟩, fun _ => .int i⟩
/-- flat values, computed -/
def atomB : Value → D → Bool
  | .str x _, .str y => x == y
  | .int i _, .int j => i == j
  | .none, .non => true
  | .bool b, .bl c => b == c
  | _, _ => false
theorem atomB_ok {K : PySem.W.Frag} {u : Value} {y : D} (h : atomB u y = true) : KVal K u y := by
  unfold atomB at h
  split at h
  · have e := eq_of_beq h; subst e; exact kv_str
  · have e := eq_of_beq h; subst e; exact kv_int
  · exact ⟨.non, rfl, fun _ => .non⟩
  · have e := eq_of_beq h; subst e; exact ⟨.bl _, rfl, fun _ => .bl _⟩
  · cases h
def atomsB : List Value → List D → Bool
  | [], [] => true
  | u :: us, y :: ys => atomB u y && atomsB us ys
  | _, _ => false
theorem atomsB_ok {K : PySem.W.Frag} : ∀ {us : List Value} {ys : List D}, atomsB us ys = true → ∃ vs, Vals vs us ∧ ∀ F, Reps K F vs ys
  | [], [], _ => ⟨[], .nil, fun _ => Reps.nil⟩
  | u :: us, y :: ys, h => by
    obtain ⟨h1, h2⟩ := Bool.and_eq_true_iff.mp h
    obtain ⟨v, a, b⟩ := atomB_ok (K := K) h1
    obtain ⟨vs, c, d⟩ := atomsB_ok (K := K) h2
    exact ⟨v :: vs, .cons a c, fun F => .cons (b F) (d F)⟩
theorem kv_tup {K : PySem.W.Frag} {t : Addr} {its : Array Value} {n : Nat} {sl : Array (Option Value)} {ys : List D} (l : K.lookup t = some ⟨.type "tuple", none, .seq its n, sl⟩) (h : atomsB its.toList ys = true) (hs : decide (its.size ≤ 16777216) = true) : KVal K (.ref t) (.tup ys) := by
  obtain ⟨vs, a, b⟩ := atomsB_ok (K := K) h
  exact ⟨.ref t, rfl, fun F => .tup (.inr ⟨_, its, n, l, rfl, rfl, by rw [sizeLine_eq]; exact of_decide_eq_true hs, a⟩) (b F).1 (b F).2⟩
/-- the dict at d has these keys -/
inductive KTabOk (K : PySem.W.Frag) (d : Addr) : List (Str × D) → Prop
  | nil : KTabOk K d []
  | cons {x : Str} {y : D} {u : Value} {tab : List (Str × D)} : PySem.W.nsIn K d x = some (some u) → KVal K u y → KTabOk K d tab → KTabOk K d ((x, y) :: tab)
theorem KTabOk.at {K : PySem.W.Frag} {d : Addr} {z : Str} {y : D} : ∀ {tab : List (Str × D)}, KTabOk K d tab → tab.lookup z = some y → ∃ u v, PySem.W.nsIn K d z = some (some u) ∧ RelV v u ∧ ∀ F, Rep K F v y
  | _, .cons (x := x) n k r, h => by
    rw [List.lookup_cons] at h
    split at h
    · rename_i e
      cases h
      have e' : z = x := by simpa using e
      subst e'
      obtain ⟨v, a, b⟩ := k
      exact ⟨_, v, n, a, b⟩
    · exact r.at h
def keysB : List DictEntry → List Str → Bool
  | [], [] => true
  | e :: es, x :: xs => e.key.isStr x && keysB es xs
  | _, _ => false
theorem keysB_none : ∀ {es : List DictEntry} {xs : List Str} {z : Str}, keysB es xs = true → z ∉ xs → es.find? (·.key.isStr z) = none
  | [], [], _, _, _ => rfl
  | e :: es, x :: xs, z, h, hz => by
    obtain ⟨h1, h2⟩ := Bool.and_eq_true_iff.mp h
    rw [List.mem_cons, not_or] at hz
    have : e.key.isStr z = false := by
      cases q : e.key with
      | str y t =>
        rw [q] at h1
        have h1 : (y == x) = true := h1
        show (y == z) = false
        have e1 : y = x := by simpa using h1
        rw [e1]
        simpa using fun e2 => hz.1 e2.symm
      | _ => rfl
    rw [List.find?_cons, this]
    exact keysB_none h2 hz.2
theorem keysB_ref : ∀ {es : List DictEntry} {xs : List Str}, keysB es xs = true → es.any (·.refKey) = false
  | [], [], _ => rfl
  | e :: es, x :: xs, h => by
    obtain ⟨h1, h2⟩ := Bool.and_eq_true_iff.mp h
    rw [List.any_cons, keysB_ref h2, Bool.or_false]
    show e.refKey = false
    unfold PySem.DictEntry.refKey
    cases q : e.key with
    | str y t => rfl
    | ref a => rw [q] at h1; cases h1
    | _ => rfl
/-- a dict of the module -/
structure DcS (K : PySem.W.Frag) (w : World) (mg : Str → Option Value) (x : Str) (d : Addr) (tab : List (Str × D)) : Prop where
  g : mg x = some (.ref d)
  o : ∃ es n, K.lookup d = some ⟨.type "dict", none, .dict es n, #[]⟩ ∧ PySem.W.KeysLit w.params es.toList ∧ keysB es.toList (tab.map Prod.fst) = true
  q : KTabOk K d tab
theorem DcS.miss {K : PySem.W.Frag} {w : World} {mg : Str → Option Value} {x : Str} {d : Addr} {tab : List (Str × D)} (T : DcS K w mg x d tab) {z : Str} (h : tab.lookup z = none) : PySem.W.nsIn K d z = some none := by
  obtain ⟨es, n, h1, h2, h3⟩ := T.o
  have hz : z ∉ tab.map Prod.fst := fun hm => by
    clear T h1 h2 h3
    induction tab with
    | nil => cases hm
    | cons p r ih =>
      rw [List.lookup_cons] at h
      split at h
      · cases h
      · rename_i e
        rw [List.map_cons, List.mem_cons] at hm
        rcases hm with hm | hm
        · subst hm; simp at e
        · exact ih h hm
  unfold PySem.W.nsIn
  rw [h1]
  show (match es.toList.find? (·.key.isStr z) with | some e => some (some e.val) | none => if es.toList.any (·.refKey) then none else some none) = _
  rw [keysB_none h3 hz]
  show (if es.toList.any (·.refKey) then none else some none) = some none
  rw [keysB_ref h3]; rfl
section
variable {X : Cx} {L : Lx} {W : WX} {σ : L2.St} {Δ : DEnv} {F H : Hp} {e e2 a b c : Expr} {es : List Expr} {me ma mb mc : DEnv → Res D} {p pos pos' tpos : Pos} {x : Str} {i kk : Nat}
def dcG (tab : List (Str × D)) : D → Option D
  | .str z => tab.lookup z
  | _ => none
theorem d_dcIx {d : Addr} {tab : List (Str × D)} (T : DcS X.K X.w X.mg x d tab) (hg : Gl X x) (hdb : (x == ("__debug__" : Str)) = false) (hs : PlainIx b) (hb : DR X L W b mb) (hk : L.K = X.K := by rfl) : DE X L W (.Subscript (.Name x p) b pos) (call1 (dcG tab) mb) := by
  obtain ⟨_, p2, s2⟩ := hb.ex
  obtain ⟨es, n, h1, h2, h3⟩ := T.o
  refine ⟨_, pe_ix ix_kdict (pe_glob (v := .ref d) hg T.g rfl hdb) p2 hs, fun σ Δ F H Q env w => ?_⟩
  refine s2 σ Δ F H _ env (w.bind.mono fun y Δ1 F1 H1 env1 w1 v rv => ?_)
  cases q : dcG tab y with
  | none => rw [q] at w1; exact w1.elim
  | some z =>
    rw [q] at w1
    cases y with
    | str k =>
      obtain ⟨u, r, a1, a2, a3⟩ := T.q.at q
      exact ⟨d, k, r, rfl, rv.str, ⟨es, n, u, h1, h2, a1, a2⟩, w1 F1 H1 env1 .refl r (hk ▸ a3 F1)⟩
    | _ => cases q
/-- a block within a block -/
theorem blk_in {s : Shared} {scope scope2 : Scope} {C : Addr} {cl : List (Str × Addr)} {fp : List Addr} {own : List (Str × Nat)} (h : BlkOk X.N (relS scope X.env.scope) scope2 own) : BlkOk (X.blk s H scope (compEnvC scope cl C X.env) fp).N (X.blk s H scope (compEnvC scope cl C X.env) fp).env.scope scope2 own := h
end
end KL
/-! KL, part v: comprehensions of two clauses. -/
namespace KL
open PySem L2
/-- the heap without the object at p -/
def hide (H : Hp) (p : Addr) : Hp := fun b => if b = p then none else H b
theorem hide_same {H : Hp} {p : Addr} : hide H p p = none := if_pos rfl
theorem hide_ne {H : Hp} {p b : Addr} (h : b ≠ p) : hide H p b = H b := if_neg h
theorem hide_some {H : Hp} {p b : Addr} {o : HO} (h : hide H p b = some o) : b ≠ p ∧ H b = some o := by
  unfold hide at h
  split at h
  · cases h
  · rename_i hb; exact ⟨hb, h⟩
section
variable {X : Cx} {L : Lx} {W : WX} {σ σ1 σ2 : L2.St} {Δ Δ1 Δ2 : DEnv} {F F1 F2 H H1 H2 : Hp} {p : Addr}
theorem EnvOk.hide (env : EnvOk L F σ Δ H) (ho : ¬ Own σ Δ p) (hf : F p = none) : EnvOk L F σ Δ (hide H p) := by
  refine ⟨fun b u h => by rw [hide_ne (ne_of_none h hf)]; exact env.ex b u h, env.len, fun i c hc => ?_, env.apart⟩
  have k := env.cells i c hc
  have keep : ∀ us, c.own? = some us → (∃ b u, slot σ i = some (.ref b) ∧ H b = some u ∧ F b = none ∧ OwnOk L.K F u us) → ∃ b u, slot σ i = some (.ref b) ∧ KL.hide H p b = some u ∧ F b = none ∧ OwnOk L.K F u us := by
    rintro us hu ⟨b, ws', g1, g2, g3, g4⟩
    refine ⟨b, ws', g1, ?_, g3, g4⟩
    rw [hide_ne (fun z => ho ⟨i, c, us, hc, hu, by rw [← z]; exact g1⟩)]; exact g2
  cases c with
  | no => trivial
  | va d => exact k
  | owv us => exact keep us rfl k
  | pav us => exact keep us rfl k
  | xc x => exact k
theorem Step.hide (s : Step σ Δ F H σ1 Δ1 F1 H1) (ho : ¬ Own σ Δ p) : Step σ Δ F (hide H p) σ1 Δ1 F1 (hide H1 p) := by
  have nn : ∀ b, H b = none → KL.hide H p b = none := fun b h => by
    unfold KL.hide
    split
    · rfl
    · exact h
  refine ⟨s.fr, fun b o h n => ?_, fun b o h => ?_, fun b h => ?_, s.pa, s.pb, fun b o h => ?_⟩
  · obtain ⟨h1, h2⟩ := hide_some h
    rw [hide_ne h1]; exact s.kp b o h2 n
  · rcases s.fn b o h with z | z | z
    · exact .inl z
    · exact .inr (.inl (nn b z))
    · exact .inr (.inr z)
  · rcases s.ow b h with z | z
    · exact .inl z
    · exact .inr (nn b z)
  · obtain ⟨h1, h2⟩ := hide_some h
    obtain ⟨o', e⟩ := s.th b o h2
    exact ⟨o', by rw [hide_ne h1]; exact e⟩
theorem Step.hideR (s : Step σ Δ F H σ1 Δ1 F1 H1) (hp : H p = none) : Step σ Δ F H σ1 Δ1 F1 (KL.hide H1 p) :=
  ⟨s.fr, fun b o h n => by rw [hide_ne (ne_of_none h hp)]; exact s.kp b o h n, s.fn, s.ow, s.pa, s.pb, fun b o h => by rw [hide_ne (ne_of_none h hp)]; exact s.th b o h⟩
theorem Step.openR (s : Step σ Δ F H σ1 Δ1 F1 (KL.hide H1 p)) : Step σ Δ F H σ1 Δ1 F1 H1 :=
  ⟨s.fr, fun b o h n => (hide_some (s.kp b o h n)).2, s.fn, s.ow, s.pa, s.pb, fun b o h => let ⟨o', e⟩ := s.th b o h; ⟨o', (hide_some e).2⟩⟩
theorem own_rest {vs : List Nat} {b : Addr} (hp : ∀ v ∈ vs, plainC Δ[v]? = true) (hl : Δ2.length = Δ.length) (hw : L2.wipe σ2 vs = L2.wipe σ vs) (h : Own σ (restD Δ Δ2 vs) b) : Own σ2 Δ2 b := by
  obtain ⟨j, c, xs, h1, h2, h3⟩ := h
  rw [restD_get hl] at h1
  split at h1
  · rename_i hj
    have := hp j hj
    rw [h1] at this
    cases c with
    | owv _ => exact Bool.noConfusion (show false = true from this)
    | pav _ => exact Bool.noConfusion (show false = true from this)
    | _ => cases h2
  · rename_i hj
    exact ⟨j, c, xs, h1, h2, by rw [wipe_slot_eq hw hj]; exact h3⟩
variable {tgt tgt1 : D → DEnv → Option DEnv} {mc mc1 : DEnv → Res Bool} {me : DEnv → Res D} {mi mi1 : DEnv → Res (List D)}
/-- the turns of a clause, its list at Dl -/
theorem lc_turns {J : It} {g : TG} {tt : TT} {te : TE} {vs : List Nat} {ds acc0 : List D} {accv0 : List V} {Dl : Addr} {N : Hp → Prop} (hJ : ItOk L F1 J ds) (hg : SndG L g tgt) (ht : SndT L WF tt mc) (he : Snd L WF te me) (hgw : TgIn vs g)
    (env1 : EnvOk L F1 σ Δ1 H1) (hD1 : H1 Dl = some (.lst accv0)) (hF1 : F1 Dl = none) (hO1 : ¬ Own σ Δ1 Dl) (hr0 : Reps L.K F1 accv0 acc0) (hpl : ∀ v ∈ vs, plainC Δ1[v]? = true) (hz : acc0.length + ds.length < 16777216)
    (w : Want L W σ Δ1 F1 (hide H1 Dl) (compM vs tgt mc me ds acc0 Δ1) (fun acc' Δ' F' H' => ∀ accv', EnvOk L F' σ Δ' H' → Step σ Δ1 F1 (hide H1 Dl) σ Δ' F' H' → (∀ v ∈ vs, plainC Δ'[v]? = true) → ¬ Own σ Δ' Dl → F' Dl = none → H' Dl = some (.lst accv') → Reps L.K F' accv' acc' → N H')) :
    ∃ W1 : Nat → Nat → Hp → Prop, (∃ m, W1 0 m H1) ∧ ∀ i k H, W1 i k H → (J.stop i H ∧ N H) ∨ (J.go i H ∧ ∃ Nx : Hp → Prop, (∀ H', Nx H' → ∃ m', m' < k ∧ W1 (i + 1) m' H') ∧ ∀ x H', J.yld i H x H' → g x (wipe σ vs) H' fun σ2 H2 => wipe σ2 vs = wipe σ vs ∧ tt σ2 H2 fun b H3 =>
      if b = true then te σ2 H3 fun y H4 => ∃ acc, H4 Dl = some (.lst acc) ∧ acc.length < sizeLine ∧ Nx (upd H4 Dl (.lst (acc ++ [y]))) else Nx H3) := by
  have st0 : Step σ Δ1 F1 (hide H1 Dl) σ Δ1 F1 H1 := Step.openR .refl
  have hD0 : hide H1 Dl Dl = none := hide_same
  refine ⟨fun i k H' => k = ds.length - i ∧ i ≤ ds.length ∧ ∃ Δ' F' accv acc, Ex F1 F' ∧ EnvOk L F' σ Δ' H' ∧ Step σ Δ1 F1 (hide H1 Dl) σ Δ' F' H' ∧ (∀ v ∈ vs, plainC Δ'[v]? = true) ∧ H' Dl = some (.lst accv) ∧ F' Dl = none ∧ ¬ Own σ Δ' Dl ∧ Reps L.K F' accv acc ∧ acc.length ≤ acc0.length + i ∧
      Want L W σ Δ1 F1 (hide H1 Dl) (compM vs tgt mc me (ds.drop i) acc Δ') (fun acc' Δ' F' H' => ∀ accv', EnvOk L F' σ Δ' H' → Step σ Δ1 F1 (hide H1 Dl) σ Δ' F' H' → (∀ v ∈ vs, plainC Δ'[v]? = true) → ¬ Own σ Δ' Dl → F' Dl = none → H' Dl = some (.lst accv') → Reps L.K F' accv' acc' → N H'),
    ⟨_, rfl, Nat.zero_le _, Δ1, F1, accv0, acc0, Ex.refl _, env1, st0, hpl, hD1, hF1, hO1, hr0, Nat.le_refl _, w⟩, ?_⟩
  rintro i k H' ⟨rfl, hi, Δ', F', accv, acc, ex, env', st', hpl', hDl, hFl, hOl, hrep, hlen, w'⟩
  obtain ⟨j1, j2⟩ := hJ i F' H' ex env'.ex
  by_cases hlt : i < ds.length
  case neg =>
    have e : i = ds.length := by omega
    subst e
    rw [List.drop_length] at w'
    exact .inl ⟨j2 (Nat.le_refl _), w' F' H' env' st' accv env' st' hpl' hOl hFl hDl hrep⟩
  obtain ⟨go, yl⟩ := j1 _ (List.getElem?_eq_getElem hlt)
  refine .inr ⟨go, fun H2 => ∃ Δ' F' accv acc, Ex F1 F' ∧ EnvOk L F' σ Δ' H2 ∧ Step σ Δ1 F1 (hide H1 Dl) σ Δ' F' H2 ∧ (∀ v ∈ vs, plainC Δ'[v]? = true) ∧ H2 Dl = some (.lst accv) ∧ F' Dl = none ∧ ¬ Own σ Δ' Dl ∧ Reps L.K F' accv acc ∧ acc.length ≤ acc0.length + (i + 1) ∧
      Want L W σ Δ1 F1 (hide H1 Dl) (compM vs tgt mc me (ds.drop (i + 1)) acc Δ') (fun acc' Δ' F' H' => ∀ accv', EnvOk L F' σ Δ' H' → Step σ Δ1 F1 (hide H1 Dl) σ Δ' F' H' → (∀ v ∈ vs, plainC Δ'[v]? = true) → ¬ Own σ Δ' Dl → F' Dl = none → H' Dl = some (.lst accv') → Reps L.K F' accv' acc' → N H'), fun H2 q => ⟨_, by omega, rfl, hlt, q⟩, fun x H'' y => ?_⟩
  obtain ⟨F'', gr, rx⟩ := yl x H'' y
  have env2 := env'.gro gr
  have stg : Step σ Δ' F' H' σ Δ' F'' H'' := Step.gro gr
  have hDl2 : H'' Dl = some (.lst accv) := gr.h _ _ hDl
  have hFl2 : F'' Dl = none := by
    cases q : F'' Dl with
    | none => rfl
    | some o => rcases gr.n Dl o q with z | z
                · rw [hFl] at z; cases z
                · rw [hDl] at z; cases z
  rw [List.drop_eq_getElem_cons hlt] at w'
  unfold compM at w'
  cases qt : tgt ds[i] (wipeD Δ' vs) with
  | none => rw [qt] at w'; exact w'.elim
  | some Δ3 =>
    rw [qt] at w'
    refine hgw _ x _ H'' _ wipe_wipe (hg (wipe σ vs) (wipeD Δ' vs) Δ3 F'' H'' x _ _ env2.wipe rx qt fun σ3 env3 st3 hw => ?_)
    have fin : ∀ {Δ5 : DEnv} {F5 H5 : Hp}, EnvOk L F5 σ3 Δ5 H5 → Step σ3 Δ3 F'' H'' σ3 Δ5 F5 H5 → EnvOk L F5 σ (restD Δ' Δ5 vs) H5 ∧ Step σ Δ1 F1 (hide H1 Dl) σ (restD Δ' Δ5 vs) F5 H5 ∧ (∀ v ∈ vs, plainC (restD Δ' Δ5 vs)[v]? = true) ∧
        H5 Dl = some (.lst accv) ∧ F5 Dl = none ∧ ¬ Own σ (restD Δ' Δ5 vs) Dl ∧ Ex F' F5 := fun {Δ5 F5 H5} env5 st5 => by
      have stA := st3.trans st5
      obtain ⟨r1, r2⟩ := EnvOk.rest hpl' env2 stA env5 hw
      have hOw : ¬ Own (wipe σ vs) (wipeD Δ' vs) Dl := fun z => hOl (own_wipe z)
      have r3 : H5 Dl = some (.lst accv) := stA.kp Dl _ hDl2 hOw
      refine ⟨r1, (st'.trans stg).trans r2, restD_plain (by rw [← env5.len, ← env'.len, ← wipe_length σ3 vs, hw, wipe_length]) hpl', r3, ?_, fun z => ?_, gr.f.trans stA.fr⟩
      · cases q : F5 Dl with
        | none => rfl
        | some o =>
          rcases stA.fn Dl o q with z | z | z
          · rw [hFl2] at z; cases z
          · rw [hDl2] at z; cases z
          · exact absurd z hOw
      · rcases r2.ow Dl z with y | y
        · exact hOl y
        · rw [hDl2] at y; cases y
    refine ht σ3 Δ3 F'' H'' _ env3 (Want.keep ((Want.cross w').mono fun b Δ4 F4 H4 env4 wb st4 => ?_))
    have w4 := wb st4
    cases b with
    | false =>
      obtain ⟨r1, r2, r3, r4, r5, r6, r7⟩ := fin env4 st4
      exact ⟨_, F4, accv, acc, ex.trans r7, r1, r2, r3, r4, r5, r6, hrep.mono r7, by omega, w4⟩
    | true =>
      refine he σ3 Δ4 F4 H4 _ env4 (Want.keep ((Want.cross w4).mono fun y Δ5 F5 H5 env5 wy st5 v rv => ?_))
      have w5 := wy st5
      obtain ⟨r1, r2, r3, r4, r5, r6, r7⟩ := fin env5 (st4.trans st5)
      refine ⟨accv, r4, by rw [line_eq, hrep.1]; omega, ?_⟩
      exact ⟨_, F5, accv ++ [v], acc ++ [y], ex.trans r7, r1.hid r6 r5, r2.hid hD0, r3, upd_same, r5, r6, (hrep.mono r7).append (.cons rv .nil), by rw [List.length_append, List.length_singleton]; omega, w5⟩
/-- two clauses -/
def comp2M (vs : List Nat) (tgt : D → DEnv → Option DEnv) (cond : DEnv → Res Bool) (vs1 : List Nat) (mi1 : DEnv → Res (List D)) (tgt1 : D → DEnv → Option DEnv) (cond1 : DEnv → Res Bool) (elt : DEnv → Res D) : List D → List D → DEnv → Res (List D)
  | [], acc, Δ => .ok acc Δ
  | d :: ds, acc, Δ => match tgt d (wipeD Δ vs) with
    | none => .stuck
    | some Δ1 => (cond Δ1).nox.bind fun b Δ2 => if b = true then (mi1 Δ2).nox.bind fun ds1 Δ3 => gd (decide (acc.length + ds1.length < 16777216) && vs1.all fun v => plainC Δ3[v]?) ((compM vs1 tgt1 cond1 elt ds1 acc Δ3).nox.bind fun acc' Δ4 => comp2M vs tgt cond vs1 mi1 tgt1 cond1 elt ds acc' (restD Δ Δ4 vs))
      else comp2M vs tgt cond vs1 mi1 tgt1 cond1 elt ds acc (restD Δ Δ2 vs)
def lc2M (vs : List Nat) (mi : DEnv → Res (List D)) (tgt : D → DEnv → Option DEnv) (cond : DEnv → Res Bool) (vs1 : List Nat) (mi1 : DEnv → Res (List D)) (tgt1 : D → DEnv → Option DEnv) (cond1 : DEnv → Res Bool) (elt : DEnv → Res D) : DEnv → Res (List D) := fun Δ => (mi Δ).bind fun ds Δ1 => gd (vs.all fun v => plainC Δ1[v]?) (comp2M vs tgt cond vs1 mi1 tgt1 cond1 elt ds [] Δ1)
theorem snd_lc2 {wi wi1 : TI} {g g1 : TG} {tt tt1 : TT} {te : TE} {vs vs1 : List Nat} (hi : SndI L W wi mi) (hg : SndG L g tgt) (ht : SndT L WF tt mc) (hgw : TgIn vs g) (hi1 : SndI L WF wi1 mi1) (hg1 : SndG L g1 tgt1) (ht1 : SndT L WF tt1 mc1) (hgw1 : TgIn vs1 g1) (he : Snd L WF te me) :
    SndF L W (tLc2 wi g tt wi1 g1 tt1 te vs vs1) (lc2M vs mi tgt mc vs1 mi1 tgt1 mc1 me) := by
  intro σ Δ F H Q env w
  refine hi σ Δ F H _ env ?_
  replace w : Want L W σ Δ F H ((mi Δ).bind fun ds Δ1 => gd (vs.all fun v => plainC Δ1[v]?) (comp2M vs tgt mc vs1 mi1 tgt1 mc1 me ds [] Δ1)) _ := w
  cases qi : mi Δ with
  | stuck => rw [qi] at w; exact w
  | ex x Δ' => rw [qi] at w; exact w
  | ok ds Δ1 =>
  rw [qi] at w
  intro F1 H1 env1 st1 J hJ Dl hD
  replace w : Want L W σ Δ F H (gd (vs.all fun v => plainC Δ1[v]?) (comp2M vs tgt mc vs1 mi1 tgt1 mc1 me ds [] Δ1)) _ := w
  unfold gd at w
  split at w
  case isFalse => exact w.elim
  rename_i hgd
  have hpl : ∀ v ∈ vs, plainC Δ1[v]? = true := List.all_eq_true.mp hgd
  have hD0 := st1.hn hD
  obtain ⟨a1, a2, a3, a4⟩ := fresh_env (vs := []) env1 hD
  refine ⟨fun i k H' => k = ds.length - i ∧ i ≤ ds.length ∧ ∃ Δ' F' accv acc, Ex F1 F' ∧ EnvOk L F' σ Δ' H' ∧ Step σ Δ F H σ Δ' F' H' ∧ (∀ v ∈ vs, plainC Δ'[v]? = true) ∧ H' Dl = some (.lst accv) ∧ F' Dl = none ∧ ¬ Own σ Δ' Dl ∧ Reps L.K F' accv acc ∧
      Want L W σ Δ F H (comp2M vs tgt mc vs1 mi1 tgt1 mc1 me (ds.drop i) acc Δ') (fun ds Δ' F' H' => ∀ p vs, H p = none → ¬ Own σ Δ' p → F' p = none → H' p = some (.lst vs) → Reps L.K F' vs ds → Q (.ref p) H'),
    ⟨_, rfl, Nat.zero_le _, Δ1, F1, [], [], Ex.refl _, a1, st1.trans a2, hpl, upd_same, a4, a3, .nil, w⟩, ?_⟩
  rintro i k H' ⟨rfl, hi, Δ', F', accv, acc, ex, env', st', hpl', hDl, hFl, hOl, hrep, w'⟩
  obtain ⟨j1, j2⟩ := hJ i F' H' ex env'.ex
  by_cases hlt : i < ds.length
  case neg =>
    have e : i = ds.length := by omega
    subst e
    rw [List.drop_length] at w'
    exact .inl ⟨j2 (Nat.le_refl _), w' F' H' env' st' Dl accv hD0 hOl hFl hDl hrep⟩
  obtain ⟨go, yl⟩ := j1 _ (List.getElem?_eq_getElem hlt)
  refine .inr ⟨go, fun H2 => ∃ Δ' F' accv acc, Ex F1 F' ∧ EnvOk L F' σ Δ' H2 ∧ Step σ Δ F H σ Δ' F' H2 ∧ (∀ v ∈ vs, plainC Δ'[v]? = true) ∧ H2 Dl = some (.lst accv) ∧ F' Dl = none ∧ ¬ Own σ Δ' Dl ∧ Reps L.K F' accv acc ∧
      Want L W σ Δ F H (comp2M vs tgt mc vs1 mi1 tgt1 mc1 me (ds.drop (i + 1)) acc Δ') (fun ds Δ' F' H' => ∀ p vs, H p = none → ¬ Own σ Δ' p → F' p = none → H' p = some (.lst vs) → Reps L.K F' vs ds → Q (.ref p) H'), fun H2 q => ⟨_, by omega, rfl, hlt, q⟩, fun x H'' y => ?_⟩
  obtain ⟨F'', gr, rx⟩ := yl x H'' y
  have env2 := env'.gro gr
  have stg : Step σ Δ' F' H' σ Δ' F'' H'' := Step.gro gr
  have hDl2 : H'' Dl = some (.lst accv) := gr.h _ _ hDl
  have hFl2 : F'' Dl = none := by
    cases q : F'' Dl with
    | none => rfl
    | some o => rcases gr.n Dl o q with z | z
                · rw [hFl] at z; cases z
                · rw [hDl] at z; cases z
  rw [List.drop_eq_getElem_cons hlt] at w'
  unfold comp2M at w'
  cases qt : tgt ds[i] (wipeD Δ' vs) with
  | none => rw [qt] at w'; exact w'.elim
  | some Δ3 =>
    rw [qt] at w'
    refine hgw _ x _ H'' _ wipe_wipe (hg (wipe σ vs) (wipeD Δ' vs) Δ3 F'' H'' x _ _ env2.wipe rx qt fun σ3 env3 st3 hw => ?_)
    have hOw : ¬ Own (wipe σ vs) (wipeD Δ' vs) Dl := fun z => hOl (own_wipe z)
    have len : ∀ {Δ5 : DEnv} {F5 H5 : Hp}, EnvOk L F5 σ3 Δ5 H5 → Δ5.length = Δ'.length := fun env5 => by rw [← env5.len, ← env'.len, ← wipe_length σ3 vs, hw, wipe_length]
    -- what stays of the list's place
    have place : ∀ {Δ5 : DEnv} {F5 H5 : Hp}, Step σ3 Δ3 F'' H'' σ3 Δ5 F5 H5 → H5 Dl = some (.lst accv) ∧ F5 Dl = none ∧ ¬ Own σ3 Δ5 Dl ∧ Ex F' F5 := fun {Δ5 F5 H5} st5 => by
      have stA := st3.trans st5
      refine ⟨stA.kp Dl _ hDl2 hOw, ?_, fun z => ?_, gr.f.trans stA.fr⟩
      · cases q : F5 Dl with
        | none => rfl
        | some o =>
          rcases stA.fn Dl o q with z | z | z
          · rw [hFl2] at z; cases z
          · rw [hDl2] at z; cases z
          · exact absurd z hOw
      · rcases stA.ow Dl z with y | y
        · exact hOw y
        · rw [hDl2] at y; cases y
    refine ht σ3 Δ3 F'' H'' _ env3 (Want.keep ((Want.cross w').mono fun b Δ4 F4 H4 env4 wb st4 => ?_))
    have w4 := wb st4
    cases b with
    | false =>
      obtain ⟨r4, r5, r6, r7⟩ := place st4
      obtain ⟨r1, r2⟩ := EnvOk.rest hpl' env2 (st3.trans st4) env4 hw
      exact ⟨_, F4, accv, acc, ex.trans r7, r1, (st'.trans stg).trans r2, restD_plain (len env4) hpl', r4, r5, fun z => r6 (own_rest hpl' (len env4) hw z), hrep.mono r7, w4⟩
    | true =>
      refine hi1 σ3 Δ4 F4 H4 _ env4 (Want.keep ((Want.cross w4).mono fun ds1 Δ5 F5 H5 env5 wy st5 J1 hJ1 => ?_))
      have w5 := wy st5
      replace w5 : Want L W σ Δ F H (gd (decide (acc.length + ds1.length < 16777216) && vs1.all fun v => plainC Δ5[v]?) ((compM vs1 tgt1 mc1 me ds1 acc Δ5).nox.bind fun acc' Δ4 => comp2M vs tgt mc vs1 mi1 tgt1 mc1 me (ds.drop (i + 1)) acc' (restD Δ' Δ4 vs))) _ := w5
      unfold gd at w5
      split at w5
      case isFalse => exact w5.elim
      rename_i hgd1
      obtain ⟨hz1, hpl1⟩ := Bool.and_eq_true_iff.mp hgd1
      have hz1 := of_decide_eq_true hz1
      have hpl1 : ∀ v ∈ vs1, plainC Δ5[v]? = true := List.all_eq_true.mp hpl1
      obtain ⟨r4, r5, r6, r7⟩ := place (st4.trans st5)
      refine lc_turns (W := WF) hJ1 hg1 ht1 he hgw1 env5 r4 r5 r6 (hrep.mono r7) hpl1 hz1 ((Want.cross w5).mono fun acc' Δ6 F6 H6 env6 wz accv' e6 st6 hp6 ho6 hf6 hd6 hr6 => ?_)
      have w6 := wz st6
      have stB : Step (wipe σ vs) (wipeD Δ' vs) F'' (hide H'' Dl) σ3 Δ6 F6 H6 := (Step.hide ((st3.trans st4).trans st5) hOw).trans st6
      obtain ⟨r1, r2⟩ := EnvOk.rest hpl' (env2.hide hOl hFl2) stB env6 hw
      have st7 : Step σ Δ F H σ (restD Δ' Δ6 vs) F6 H6 := ((st'.trans stg).hideR hD0).trans r2
      exact ⟨_, F6, accv', acc', (ex.trans r7).trans st6.fr, r1, st7, restD_plain (len env6) hpl', hd6, hf6, fun z => ho6 (own_rest hpl' (len env6) hw z), hr6, w6⟩
def tiM (L : Lx) (W : WX) (m : DEnv → Res (List D)) : TI := fun σ H R => ∃ Δ F, EnvOk L F σ Δ H ∧ Want L W σ Δ F H (m Δ) (fun ds _ F' H' => ∀ J, ItOk L F' J ds → R J H')
theorem DI.one {tg e : Expr} {m : DEnv → Res (List D)} (h : DI X L W tg e m) : PI X tg e (tiM L W m) := by
  obtain ⟨te, p, s⟩ := h.ex
  exact ⟨fun pins s0 σ H Q I q => by obtain ⟨Δ, F, env, w⟩ := q; exact p.run pins s0 σ H Q I (s σ Δ F H Q env w)⟩
theorem snd_tiM {m : DEnv → Res (List D)} : SndI L W (tiM L W m) m := fun σ Δ F H Q env w => ⟨Δ, F, env, w⟩
variable {tg iter tg1 iter1 elt : Expr} {ifs ifs1 : List Expr} {scope : Scope} {own : List (Str × Nat)} {pos : Pos} {vs1 : List Nat}
theorem f_lc2 (hN : X.N.Nodup) (hi : DI X L W tg iter mi) (ok : BlkOk X.N X.env.scope scope own) (hv : ∀ i ∈ vs1, i ∈ own.map (·.2)) (hg : BG X scope L (own.map (·.2)) tg tgt)
    (ht : ∀ (s : Shared) (H : Hp) (C : Addr) (cl : List (Str × Addr)) (fp : List Addr), DTs (X.blk s H scope (compEnvC scope cl C X.env) fp) L WF ifs mc)
    (hi1 : ∀ (s : Shared) (H : Hp) (C : Addr) (cl : List (Str × Addr)) (fp : List Addr), DI (X.blk s H scope (compEnvC scope cl C X.env) fp) L WF tg1 iter1 mi1) (hg1 : BG X scope L vs1 tg1 tgt1)
    (ht1 : ∀ (s : Shared) (H : Hp) (C : Addr) (cl : List (Str × Addr)) (fp : List Addr), DTs (X.blk s H scope (compEnvC scope cl C X.env) fp) L WF ifs1 mc1)
    (he : ∀ (s : Shared) (H : Hp) (C : Addr) (cl : List (Str × Addr)) (fp : List Addr), DE (X.blk s H scope (compEnvC scope cl C X.env) fp) L WF elt me) (hc : X.calm = true := by rfl) (hs : ∀ x, foldedSetIterable iter X.env x = pure x := by intro _; rfl) (hs1 : ∀ env x, foldedSetIterable iter1 env x = pure x := by intro _ _; rfl) :
    DF X L W (.ListComp elt [⟨tg, iter, ifs, 0⟩, ⟨tg1, iter1, ifs1, 0⟩] scope pos) (lc2M (own.map (·.2)) mi tgt mc vs1 mi1 tgt1 mc1 me) := by
  obtain ⟨wi, p1, s1⟩ := hi.ex
  obtain ⟨g, p2, s2, i2, _⟩ := hg.ex
  obtain ⟨g1, p3, s3, i3, _⟩ := hg1.ex
  exact ⟨_, pe_lc2 hc hN p1 ok hv p2 (fun s H C cl fp => (ht s H C cl fp).one) (fun s H C cl fp => (hi1 s H C cl fp).one) p3 (fun s H C cl fp => (ht1 s H C cl fp).one) (fun s H C cl fp => (he s H C cl fp).one) hs hs1, snd_lc2 s1 s2 snd_ttM i2 snd_tiM s3 snd_ttM i3 snd_teM⟩
theorem s_setLc2 {i : Nat} {y : Str} {py spos : Pos} (hN : X.N.Nodup) (hy : X.N[i]? = some y) (hyl : X.env.scope.names.lookup y = some .local) (hsw : swapsWith (.ListComp elt [⟨tg, iter, ifs, 0⟩, ⟨tg1, iter1, ifs1, 0⟩] scope pos) (some (.Name y py)) spos.line X.env = pure true) (hi : DI X L W tg iter mi) (ok : BlkOk X.N X.env.scope scope own) (hv : ∀ i ∈ vs1, i ∈ own.map (·.2)) (hg : BG X scope L (own.map (·.2)) tg tgt)
    (ht : ∀ (s : Shared) (H : Hp) (C : Addr) (cl : List (Str × Addr)) (fp : List Addr), DTs (X.blk s H scope (compEnvC scope cl C X.env) fp) L WF ifs mc)
    (hi1 : ∀ (s : Shared) (H : Hp) (C : Addr) (cl : List (Str × Addr)) (fp : List Addr), DI (X.blk s H scope (compEnvC scope cl C X.env) fp) L WF tg1 iter1 mi1) (hg1 : BG X scope L vs1 tg1 tgt1)
    (ht1 : ∀ (s : Shared) (H : Hp) (C : Addr) (cl : List (Str × Addr)) (fp : List Addr), DTs (X.blk s H scope (compEnvC scope cl C X.env) fp) L WF ifs1 mc1)
    (he : ∀ (s : Shared) (H : Hp) (C : Addr) (cl : List (Str × Addr)) (fp : List Addr), DE (X.blk s H scope (compEnvC scope cl C X.env) fp) L WF elt me) (hc : X.calm = true := by rfl) (hs : ∀ x, foldedSetIterable iter X.env x = pure x := by intro _; rfl) (hs1 : ∀ env x, foldedSetIterable iter1 env x = pure x := by intro _ _; rfl) :
    DS X L W (.Assign [.Name y py] (.ListComp elt [⟨tg, iter, ifs, 0⟩, ⟨tg1, iter1, ifs1, 0⟩] scope pos) spos) (fun Δ => (lc2M (own.map (·.2)) mi tgt mc vs1 mi1 tgt1 mc1 me Δ).s fun d Δ1 => setO i d Δ1) := by
  obtain ⟨wi, p1, s1⟩ := hi.ex
  obtain ⟨g, p2, s2, i2, _⟩ := hg.ex
  obtain ⟨g1, p3, s3, i3, _⟩ := hg1.ex
  exact ⟨_, ps_setLc2 hc hN hy hyl hsw p1 ok hv p2 (fun s H C cl fp => (ht s H C cl fp).one) (fun s H C cl fp => (hi1 s H C cl fp).one) p3 (fun s H C cl fp => (ht1 s H C cl fp).one) (fun s H C cl fp => (he s H C cl fp).one) hs hs1, snd_setF (snd_lc2 s1 s2 snd_ttM i2 snd_tiM s3 snd_ttM i3 snd_teM)⟩
end
end KL
/-! KL, part w: a, b = x, y; blocks within blocks. -/
namespace KL
open PySem L2
section
variable {X : Cx} {L : Lx} {W : WX} {σ : L2.St} {Δ : DEnv} {F H : Hp} {a b : Expr} {n : DEnv → Res (List D)} {p pos : Pos} {x y : Str} {i j : Nat}
def parM (i j : Nat) (n : DEnv → Res (List D)) : DEnv → SRes := fun Δ => (n Δ).s fun ds Δ1 => match ds with
  | [d, e] => if canSet Δ1 i = true ∧ canSet Δ1 j = true then .nx ((Δ1.set i (.va d)).set j (.va e)) else .stuck
  | _ => .stuck
theorem canSet_set {Δ : DEnv} {i j : Nat} {d : D} (h : canSet Δ j = true) : canSet (Δ.set i (.va d)) j = true := by
  unfold canSet at *
  by_cases hij : i = j
  · subst hij
    have hl : i < Δ.length := canSet_lt (by unfold canSet; exact h)
    rw [List.getElem?_set_self hl]
  · rw [List.getElem?_set_ne hij]; exact h
theorem s_par {kt k2 : Nat} {px py pt pt2 : Pos} (hN : X.N.Nodup) (hi : X.N[i]? = some x) (hj : X.N[j]? = some y) (hij : i ≠ j) (hx : X.env.scope.names.lookup x = some .local) (hy : X.env.scope.names.lookup y = some .local) (h : DA X L W [a, b] n) (hc : X.calm = true := by rfl)
    {st : Stmt} (hst : ∀ t, PA X [a, b] t → PS X st (tPar i j t)) : DS X L W st (parM i j n) := by
  obtain ⟨ta, p1, s1⟩ := h.ex
  refine ⟨_, hst ta p1, fun σ Δ F H E env w => ?_⟩
  replace w : WantS L W σ Δ F H ((n Δ).s fun ds Δ1 => match ds with | [d, e] => if canSet Δ1 i = true ∧ canSet Δ1 j = true then .nx ((Δ1.set i (.va d)).set j (.va e)) else .stuck | _ => .stuck) E := w
  refine s1 σ Δ F H _ env ((Want.ofS w).mono fun ds Δ1 F1 H1 env1 w1 vs rs => ?_)
  match ds, w1 with
  | [d, e], w1 =>
    obtain ⟨v, r, rfl, h1, r1⟩ := rs.cons_inv
    obtain ⟨u, r', rfl, h2, r2⟩ := r1.cons_inv
    cases r2.nil_inv
    replace w1 : WantS L W σ Δ1 F1 H1 (if canSet Δ1 i = true ∧ canSet Δ1 j = true then .nx ((Δ1.set i (.va d)).set j (.va e)) else .stuck) E := w1
    split at w1
    · rename_i hc2
      have e1 := env1.setC hc2.1 (c := .va d) (v := v) ⟨v, rfl, h1⟩ fun xs a h _ => by cases h
      have s1 : Step σ Δ1 F1 H1 (σ.set i (some v)) (Δ1.set i (.va d)) F1 H1 := Step.setC .refl env1.len hc2.1 (fun xs h => by cases h) fun xs h => by cases h
      have hc3 := canSet_set (i := i) (d := d) hc2.2
      have e2 := e1.setC hc3 (c := .va e) (v := u) ⟨u, rfl, h2⟩ fun xs a h _ => by cases h
      exact ⟨v, u, rfl, w1 _ F1 H1 e2 (s1.setC e1.len hc3 (fun xs h => by cases h) fun xs h => by cases h)⟩
    · exact w1.elim
  | [], w1 => exact w1.elim
  | [_], w1 => exact w1.elim
  | _ :: _ :: _ :: _, w1 => exact w1.elim
theorem s_par2 {kt k2 : Nat} {px py pt pt2 : Pos} (hN : X.N.Nodup) (hi : X.N[i]? = some x) (hj : X.N[j]? = some y) (hij : i ≠ j) (hx : X.env.scope.names.lookup x = some .local) (hy : X.env.scope.names.lookup y = some .local) (h : DA X L W [a, b] n)
    (hw : swappedStores [.Tuple [.Name x px, .Name y py] kt pt] (.Tuple [a, b] k2 pt2) X.env = pure (some [x, y]) := by rfl) (hc : X.calm = true := by rfl)
    (hs : swapsWithSole [.Tuple [.Name x px, .Name y py] kt pt] (.Tuple [a, b] k2 pt2) pos.line X.env = pure false := by rfl) : DS X L W (.Assign [.Tuple [.Name x px, .Name y py] kt pt] (.Tuple [a, b] k2 pt2) pos) (parM i j n) :=
  s_par (kt := kt) (k2 := k2) (px := px) (py := py) (pt := pt) (pt2 := pt2) hN hi hj hij hx hy h hc fun t ht => ps_par hc hN hi hj hij hx hy ht hw hs
theorem blk_in2 {N' : List Str} {sc : Scope} {s : Shared} {scope scope2 : Scope} {C : Addr} {cl : List (Str × Addr)} {fp : List Addr} {own : List (Str × Nat)} (hN : X.N = N') (hs : X.env.scope = sc) (h : BlkOk N' (relS scope sc) scope2 own) : BlkOk (X.blk s H scope (compEnvC scope cl C X.env) fp).N (X.blk s H scope (compEnvC scope cl C X.env) fp).env.scope scope2 own := by
  subst hN hs; exact h
end
end KL
/-! KL, part x: more readings computed. -/
namespace KL
open PySem L2
/-- a comprehension with a test, all of whose turns go through -/
theorem compM_fm {vs : List Nat} {tgt : D → DEnv → Option DEnv} {cond : DEnv → Res Bool} {elt : DEnv → Res D} {Δ : DEnv} {f : D → Option D} : ∀ {xs acc : List D},
    (∀ x ∈ xs, ∃ Δ1 Δ2, tgt x (wipeD Δ vs) = some Δ1 ∧ ((∃ y Δ3, f x = some y ∧ cond Δ1 = .ok true Δ2 ∧ elt Δ2 = .ok y Δ3 ∧ restD Δ Δ3 vs = Δ) ∨ (f x = none ∧ cond Δ1 = .ok false Δ2 ∧ restD Δ Δ2 vs = Δ))) → compM vs tgt cond elt xs acc Δ = .ok (acc ++ xs.filterMap f) Δ
  | [], acc, _ => by rw [List.filterMap_nil, List.append_nil]; rfl
  | x :: xs, acc, h => by
    obtain ⟨Δ1, Δ2, e1, h2⟩ := h x (by simp)
    unfold compM
    rw [e1]
    show (cond Δ1).nox.bind _ = _
    rcases h2 with ⟨y, Δ3, fx, c, e, r⟩ | ⟨fx, c, r⟩
    · rw [c, nox_ok_, bind_ok_, if_pos rfl, e, nox_ok_, bind_ok_, r, compM_fm (f := f) fun z hz => h z (by simp [hz]), List.filterMap_cons, fx, List.append_assoc]; rfl
    · rw [c, nox_ok_, bind_ok_, if_neg (by decide), r, compM_fm (f := f) fun z hz => h z (by simp [hz]), List.filterMap_cons, fx]
/-- the same, the items told by their places -/
theorem lcM_fm {vs : List Nat} {mi : DEnv → Res (List D)} {tgt : D → DEnv → Option DEnv} {cond : DEnv → Res Bool} {elt : DEnv → Res D} {Δ Δ0 : DEnv} {xs : List D} {f : D → Option D} (hi : mi Δ0 = .ok xs Δ) (hl : xs.length < 16777216) (hp : (vs.all fun v => plainC Δ[v]?) = true)
    (h : ∀ x ∈ xs, ∃ Δ1 Δ2, tgt x (wipeD Δ vs) = some Δ1 ∧ ((∃ y Δ3, f x = some y ∧ cond Δ1 = .ok true Δ2 ∧ elt Δ2 = .ok y Δ3 ∧ restD Δ Δ3 vs = Δ) ∨ (f x = none ∧ cond Δ1 = .ok false Δ2 ∧ restD Δ Δ2 vs = Δ))) : lcM vs mi tgt cond elt Δ0 = .ok (xs.filterMap f) Δ := by
  unfold lcM
  rw [hi, bind_ok_, decide_eq_true hl, hp]
  show gd true _ = _
  rw [gd_true_, compM_fm h, List.nil_append]
/-- without a test -/
theorem lcM_map {vs : List Nat} {mi : DEnv → Res (List D)} {tgt : D → DEnv → Option DEnv} {elt : DEnv → Res D} {Δ Δ0 : DEnv} {xs : List D} {f : D → D} (hi : mi Δ0 = .ok xs Δ) (hl : xs.length < 16777216) (hp : (vs.all fun v => plainC Δ[v]?) = true)
    (h : ∀ x ∈ xs, ∃ Δ1 Δ3, tgt x (wipeD Δ vs) = some Δ1 ∧ elt Δ1 = .ok (f x) Δ3 ∧ restD Δ Δ3 vs = Δ) : lcM vs mi tgt (cst true) elt Δ0 = .ok (xs.map f) Δ := by
  have e : xs.map f = xs.filterMap fun x => some (f x) := by rw [List.filterMap_eq_map']
  rw [e]
  exact lcM_fm hi hl hp fun x hx => let ⟨Δ1, Δ3, a, b, c⟩ := h x hx; ⟨Δ1, Δ1, a, .inl ⟨f x, Δ3, rfl, rfl, b, c⟩⟩
theorem callV2f {F : DEnv → FRes} {m n : DEnv → Res D} {Δ Δ1 Δ2 cs : DEnv} {d e : D} {r : List D} (h : m Δ = .ok d Δ1) (h2 : n Δ1 = .ok e Δ2) (hF : F [.va d, .va e] = .fr r cs) : callF F (aV m (aV n (cst ([] : List Arg)))) Δ = .ok r Δ2 := by
  unfold callF callG
  rw [aV_, h, bind_ok_, aV_, h2, bind_ok_, map_ok_, map_ok_, bind_ok_]
  show FRes.toF [Sum.inl d, Sum.inl e] Δ2 (F [.va d, .va e]) = _
  rw [hF]
  show Res.ok r (backD [Sum.inl d, Sum.inl e] cs Δ2) = _
  rw [backD_in2]
theorem callV2x {F : DEnv → FRes} {m n : DEnv → Res D} {Δ Δ1 Δ2 cs : DEnv} {d e : D} {x : Exc} (h : m Δ = .ok d Δ1) (h2 : n Δ1 = .ok e Δ2) (hF : F [.va d, .va e] = .ex x cs) : callM F (aV m (aV n (cst ([] : List Arg)))) Δ = .ex x Δ2 := by
  unfold callM callG
  rw [aV_, h, bind_ok_, aV_, h2, bind_ok_, map_ok_, map_ok_, bind_ok_]
  show FRes.toR [Sum.inl d, Sum.inl e] Δ2 (F [.va d, .va e]) = _
  rw [hF]
  show Res.ex x (backD [Sum.inl d, Sum.inl e] cs Δ2) = _
  rw [backD_in2]
theorem retFS_ok {m : DEnv → Res (List D)} {Δ Δ1 : DEnv} {ds : List D} (h : m Δ = .ok ds Δ1) : retFS m Δ = .rf ds Δ1 := by rw [retFS_, h]; rfl
theorem setOS_ok {i : Nat} {m : DEnv → Res (List D)} {Δ Δ1 : DEnv} {d : List D} (h : m Δ = .ok d Δ1) (hc : canSet Δ1 i = true) : setOS i m Δ = .nx (Δ1.set i (.ow d)) := by
  rw [setOS_, h, s_ok_]; unfold setO; rw [if_pos hc]
theorem sq_nx {a b : DEnv → SRes} {Δ Δ1 : DEnv} (h : a Δ = .nx Δ1) : sq a b Δ = b Δ1 := by rw [sq_, h]; rfl
theorem seqA_lst {m : DEnv → Res D} {Δ Δ1 : DEnv} {ds : List D} (h : m Δ = .ok (.lst ds) Δ1) : seqA m Δ = .ok ds Δ1 := by unfold seqA; rw [h]; rfl
theorem seqA_tup {m : DEnv → Res D} {Δ Δ1 : DEnv} {ds : List D} (h : m Δ = .ok (.tup ds) Δ1) : seqA m Δ = .ok ds Δ1 := by unfold seqA; rw [h]; rfl
theorem consM_ok {m : DEnv → Res D} {n : DEnv → Res (List D)} {Δ Δ1 Δ2 : DEnv} {d : D} {ds : List D} (h : m Δ = .ok d Δ1) (h2 : n Δ1 = .ok ds Δ2) : consM m n Δ = .ok (d :: ds) Δ2 := by rw [consM_, h, bind_ok_, h2]; rfl
theorem tupM_ok {n : DEnv → Res (List D)} {Δ Δ2 : DEnv} {ds : List D} (h2 : n Δ = .ok ds Δ2) (hl : ds.length ≤ 16777216) : tupM n Δ = .ok (.tup ds) Δ2 := by
  unfold tupM; rw [h2, bind_ok_, decide_eq_true hl]; rfl
theorem lstM_ok {n : DEnv → Res (List D)} {Δ Δ2 : DEnv} {ds : List D} (h2 : n Δ = .ok ds Δ2) (hl : ds.length ≤ 16777216) : lstM n Δ = .ok ds Δ2 := by
  unfold lstM; rw [h2, bind_ok_, decide_eq_true hl]; rfl
theorem call1_ok {g : D → Option D} {m : DEnv → Res D} {Δ Δ1 : DEnv} {d z : D} (h : m Δ = .ok d Δ1) (hg : g d = some z) : call1 g m Δ = .ok z Δ1 := by rw [call1_, h, bind_ok_, hg]; rfl
theorem truM_ok {m : DEnv → Res D} {Δ Δ1 : DEnv} {d : D} {b : Bool} (h : m Δ = .ok d Δ1) (hg : truD d = some b) : truM m Δ = .ok b Δ1 := by rw [truM_, h, bind_ok_, hg]; rfl
theorem catF_ok {xs ys : List D} (h : xs.length + ys.length ≤ 16777216) : catF (.lst xs) (.lst ys) = some (xs ++ ys) := if_pos h
/-! the items typed -/
theorem compM_ft {α : Type} {vs : List Nat} {tgt : D → DEnv → Option DEnv} {cond : DEnv → Res Bool} {elt : DEnv → Res D} {Δ : DEnv} {i : α → D} {t : α → Bool} {o : α → D} : ∀ {xs : List α} {acc : List D},
    (∀ x ∈ xs, ∃ Δ1 Δ2, tgt (i x) (wipeD Δ vs) = some Δ1 ∧ cond Δ1 = .ok (t x) Δ2 ∧ (t x = true → ∃ Δ3, elt Δ2 = .ok (o x) Δ3 ∧ restD Δ Δ3 vs = Δ) ∧ (t x = false → restD Δ Δ2 vs = Δ)) → compM vs tgt cond elt (xs.map i) acc Δ = .ok (acc ++ (xs.filter t).map o) Δ
  | [], acc, _ => by
    show Res.ok acc Δ = Res.ok (acc ++ []) Δ
    rw [List.append_nil]
  | x :: xs, acc, h => by
    obtain ⟨Δ1, Δ2, e1, c, h1, h2⟩ := h x (by simp)
    rw [List.map_cons]
    unfold compM
    rw [e1]
    show (cond Δ1).nox.bind _ = _
    rw [c, nox_ok_, bind_ok_]
    cases q : t x with
    | true =>
      obtain ⟨Δ3, e, r⟩ := h1 q
      rw [if_pos rfl, e, nox_ok_, bind_ok_, r, compM_ft (o := o) (t := t) fun z hz => h z (by simp [hz]), List.filter_cons, q, List.append_assoc]; rfl
    | false =>
      rw [if_neg (by decide), h2 q, compM_ft (o := o) (t := t) fun z hz => h z (by simp [hz]), List.filter_cons, q]; rfl
theorem lcM_ft {α : Type} {vs : List Nat} {mi : DEnv → Res (List D)} {tgt : D → DEnv → Option DEnv} {cond : DEnv → Res Bool} {elt : DEnv → Res D} {Δ Δ0 : DEnv} {i : α → D} {t : α → Bool} {o : α → D} {xs : List α} (hi : mi Δ0 = .ok (xs.map i) Δ) (hl : xs.length < 16777216) (hp : (vs.all fun v => plainC Δ[v]?) = true)
    (h : ∀ x ∈ xs, ∃ Δ1 Δ2, tgt (i x) (wipeD Δ vs) = some Δ1 ∧ cond Δ1 = .ok (t x) Δ2 ∧ (t x = true → ∃ Δ3, elt Δ2 = .ok (o x) Δ3 ∧ restD Δ Δ3 vs = Δ) ∧ (t x = false → restD Δ Δ2 vs = Δ)) : lcM vs mi tgt cond elt Δ0 = .ok ((xs.filter t).map o) Δ := by
  unfold lcM
  rw [hi, bind_ok_, List.length_map, decide_eq_true hl, hp]
  show gd true _ = _
  rw [gd_true_, compM_ft h, List.nil_append]
theorem lcM_mt {α : Type} {vs : List Nat} {mi : DEnv → Res (List D)} {tgt : D → DEnv → Option DEnv} {elt : DEnv → Res D} {Δ Δ0 : DEnv} {i : α → D} {o : α → D} {xs : List α} (hi : mi Δ0 = .ok (xs.map i) Δ) (hl : xs.length < 16777216) (hp : (vs.all fun v => plainC Δ[v]?) = true)
    (h : ∀ x ∈ xs, ∃ Δ1 Δ3, tgt (i x) (wipeD Δ vs) = some Δ1 ∧ elt Δ1 = .ok (o x) Δ3 ∧ restD Δ Δ3 vs = Δ) : lcM vs mi tgt (cst true) elt Δ0 = .ok (xs.map o) Δ := by
  have := lcM_ft (t := fun _ => true) (o := o) (cond := cst true) (elt := elt) (tgt := tgt) hi hl hp fun x hx => let ⟨Δ1, Δ3, a, b, c⟩ := h x hx; ⟨Δ1, Δ1, a, rfl, fun _ => ⟨Δ3, b, c⟩, fun z => by cases z⟩
  rw [List.filter_eq_self.mpr (fun _ _ => rfl)] at this
  exact this
end KL
/-! KL, part y: equations by which simp computes readings over written-out frames. -/
namespace KL
open PySem L2
section
variable {α β : Type} {Δ Δ1 Δ2 : DEnv} {x : Exc} {i : Nat} {d : D}
theorem e_opV {f : D → D → Option α} {mb : DEnv → Res D} : opV f i mb Δ = match rdR Δ i with
  | none => .stuck
  | some _ => (mb Δ).bind fun y Δ1 => .opt ((rdR Δ1 i).bind fun x => f x y) Δ1 := nr rfl
theorem e_varM : varM i Δ = match Δ[i]? with
  | some (.va d) => .ok d Δ
  | some (.owv (.l xs)) => .ok (.lst xs) (Δ.set i (.va (.lst xs)))
  | _ => .stuck := nr rfl
theorem e_rdR : rdR Δ i = (Δ[i]?).bind rdC := nr rfl
theorem e_get0 {c : Cell} {l : DEnv} : (c :: l)[0]? = some c := nr rfl
theorem e_getS {c : Cell} {l : DEnv} {n : Nat} : (c :: l)[n + 1]? = l[n]? := nr rfl
theorem e_set0 {c e : Cell} {l : DEnv} : (c :: l).set 0 e = e :: l := nr rfl
theorem e_setS {c e : Cell} {l : DEnv} {n : Nat} : (c :: l).set (n + 1) e = c :: l.set n e := nr rfl
theorem e_bind {a : α} {f : α → Option β} : (some a).bind f = f a := nr rfl
theorem e_cst {a : α} : cst a Δ = .ok a Δ := nr rfl
theorem e_setM : setM i d Δ = if canSet Δ i = true then .nx (Δ.set i (.va d)) else .stuck := nr rfl
theorem e_setO {ds : List D} : setO i ds Δ = if canSet Δ i = true then .nx (Δ.set i (.ow ds)) else .stuck := nr rfl
theorem e_canSet {c : Cell} (h : Δ[i]? = some c) (hc : canC c = true) : canSet Δ i = true := by rw [canSet_, h]; exact hc
theorem e_tgN : tgN i d Δ = if canSet Δ i = true then some (Δ.set i (.va d)) else none := nr rfl
theorem e_tgT {n : Nat} {u : List D → DEnv → Option DEnv} {ds : List D} : tgT n u (.tup ds) Δ = if ds.length = n then u ds Δ else none := nr rfl
theorem e_tgsNil : tgsNil [] Δ = some Δ := nr rfl
theorem e_tgsCons {t : D → DEnv → Option DEnv} {u : List D → DEnv → Option DEnv} {r : List D} : tgsCons t u (d :: r) Δ = (t d Δ).bind (u r) := nr rfl
theorem e_asgM {me : DEnv → Res D} {tgt : D → DEnv → Option DEnv} : asgM me tgt Δ = (me Δ).s fun d Δ1 => match tgt d Δ1 with
  | some Δ2 => .nx Δ2
  | none => .stuck := nr rfl
theorem e_parM {j : Nat} {n : DEnv → Res (List D)} : parM i j n Δ = (n Δ).s fun ds Δ1 => match ds with
  | [d, e] => if canSet Δ1 i = true ∧ canSet Δ1 j = true then .nx ((Δ1.set i (.va d)).set j (.va e)) else .stuck
  | _ => .stuck := nr rfl
theorem e_tupM {n : DEnv → Res (List D)} : tupM n Δ = (n Δ).bind fun ds Δ1 => gd (decide (ds.length ≤ 16777216)) (.ok (.tup ds) Δ1) := nr rfl
theorem e_lstM {n : DEnv → Res (List D)} : lstM n Δ = (n Δ).bind fun ds Δ1 => gd (decide (ds.length ≤ 16777216)) (.ok ds Δ1) := nr rfl
theorem e_gd {c : Bool} {r : Res α} (h : c = true) : gd c r = r := by rw [h]; rfl
theorem e_notV {m : DEnv → Res D} : notV m Δ = (m Δ).bind fun d Δ1 => match d with
  | .bl b => .ok (.bl (!b)) Δ1
  | _ => .stuck := nr rfl
theorem e_negM {m : DEnv → Res D} : negM m Δ = (m Δ).bind fun d Δ1 => match d with
  | .int i => .ok (.int (-i)) Δ1
  | _ => .stuck := nr rfl
theorem e_seqA {m : DEnv → Res D} : seqA m Δ = (m Δ).bind fun d Δ1 => match d with
  | .lst ds => .ok ds Δ1
  | .tup ds => .ok ds Δ1
  | .lsx ds => .ok ds Δ1
  | .str z => .ok (signs z) Δ1
  | _ => .stuck := nr rfl
theorem e_chainM {f g : D → D → Option D} {ma mb mc : DEnv → Res D} : chainM f g ma mb mc Δ = (ma Δ).bind fun x Δ1 => (mb Δ1).bind fun y Δ2 => match f x y with
  | some (.bl true) => (mc Δ2).bind fun z Δ3 => .opt (g y z) Δ3
  | some (.bl false) => .ok (.bl false) Δ2
  | _ => .stuck := nr rfl
theorem e_callF1 {g : D → Option (List D)} {m : DEnv → Res D} : callF1 g m Δ = (m Δ).bind fun d Δ1 => .opt (g d) Δ1 := nr rfl
theorem e_revF {m : DEnv → Res D} : revF m Δ = (m Δ).bind fun d Δ1 => match d with
  | .lst ds => .ok ds.reverse Δ1
  | _ => .stuck := nr rfl
theorem e_sm1M {g : Str → D → Option D} {mo me : DEnv → Res D} : sm1M g mo me Δ = (mo Δ).bind fun d Δ1 => match d with
  | .str z => (me Δ1).bind fun y Δ2 => .opt (g z y) Δ2
  | _ => .stuck := nr rfl
theorem e_enumM {m : DEnv → Res D} : enumM m Δ = (m Δ).bind fun d Δ1 => .opt ((walkD d).map enumL) Δ1 := nr rfl
theorem e_getL : getL Δ i = (Δ[i]?).bind Cell.list? := nr rfl
theorem e_list_ow {xs : List D} : Cell.list? (.owv (.l xs)) = some xs := nr rfl
theorem e_list_pa {xs : List D} : Cell.list? (.pav (.l xs)) = some xs := nr rfl
theorem e_own_ow {w : OwnV} : Cell.own? (.owv w) = some w := nr rfl
theorem e_own_pa {w : OwnV} : Cell.own? (.pav w) = some w := nr rfl
theorem e_getO : getO Δ i = (Δ[i]?).bind Cell.own? := nr rfl
theorem e_setW {w : OwnV} : setW Δ i w = match Δ[i]? with
  | some (.owv _) => Δ.set i (.owv w)
  | some (.pav _) => Δ.set i (.pav w)
  | _ => Δ := nr rfl
theorem e_appendM {me : DEnv → Res D} : appendM i me Δ = match getL Δ i with
  | none => .stuck
  | some _ => (me Δ).bind fun d Δ1 => match getL Δ1 i with
    | none => .stuck
    | some xs => gd (decide (xs.length < 16777216)) (.ok .non (setL Δ1 i (xs ++ [d]))) := nr rfl
theorem e_aO {r : DEnv → Res (List Arg)} : aO i r Δ = match getO Δ i with
  | none => .stuck
  | some _ => (r Δ).map (Sum.inr i :: ·) := nr rfl
theorem e_callG {g : List Arg → DEnv → FRes → Res α} {mf : DEnv → FRes} {m : DEnv → Res (List Arg)} : callG g mf m Δ = (m Δ).bind fun zs Δ1 => match cellsOf Δ1 zs with
  | none => .stuck
  | some cs => if (slotsOf zs).Nodup then g zs Δ1 (mf cs) else .stuck := nr rfl
theorem e_cells0 : cellsOf Δ [] = some [] := nr rfl
theorem e_cellsV {zs : List Arg} : cellsOf Δ (.inl d :: zs) = (cellsOf Δ zs).map (Cell.va d :: ·) := nr rfl
theorem e_cellsO {zs : List Arg} : cellsOf Δ (.inr i :: zs) = (getO Δ i).bind fun xs => (cellsOf Δ zs).map (Cell.pav xs :: ·) := nr rfl
theorem e_omap {a : α} {f : α → β} : (some a).map f = some (f a) := nr rfl
theorem e_slots0 : slotsOf [] = [] := nr rfl
theorem e_slotsV {zs : List Arg} : slotsOf (.inl d :: zs) = slotsOf zs := nr rfl
theorem e_slotsO {zs : List Arg} : slotsOf (.inr i :: zs) = i :: slotsOf zs := nr rfl
theorem e_nodup0 : ([] : List Nat).Nodup = True := by simp
theorem e_nodup1 : [i].Nodup = True := by simp
theorem e_toR_ok {zs : List Arg} {cs : DEnv} : FRes.toR zs Δ (.ok d cs) = .ok d (backD zs cs Δ) := nr rfl
theorem e_toR_ex {zs : List Arg} {cs : DEnv} : FRes.toR zs Δ (.ex x cs) = .ex x (backD zs cs Δ) := nr rfl
theorem e_toF_fr {zs : List Arg} {cs : DEnv} {ds : List D} : FRes.toF zs Δ (.fr ds cs) = .ok ds (backD zs cs Δ) := nr rfl
theorem e_toF_ex {zs : List Arg} {cs : DEnv} : FRes.toF zs Δ (.ex x cs) = .ex x (backD zs cs Δ) := nr rfl
theorem e_backO {zs : List Arg} {cs : DEnv} {w : OwnV} : backD (.inr i :: zs) (.pav w :: cs) Δ = backD zs cs (setW Δ i w) := nr rfl
theorem e_backV {zs : List Arg} {cs : DEnv} {c : Cell} : backD (.inl d :: zs) (c :: cs) Δ = backD zs cs Δ := by cases c <;> rfl
theorem e_back0 {cs : DEnv} : backD [] cs Δ = Δ := by cases cs <;> rfl
theorem e_tru_int {j : Int} : truD (.int j) = some (j != 0) := nr rfl
theorem e_tru_bl {b : Bool} : truD (.bl b) = some b := nr rfl
theorem e_while {c : DEnv → Res Bool} {body : DEnv → SRes} {n : Nat} : whileM c body (n + 1) Δ = (c Δ).s fun b Δ1 => if b = true then (body Δ1).loop (whileM c body n) else .nx Δ1 := nr rfl
/-! one turn of a comprehension as one reading -/
def stepC (vs : List Nat) (tgt : D → DEnv → Option DEnv) (cond : DEnv → Res Bool) (elt : DEnv → Res D) (d : D) (Δ : DEnv) : Res (Option D) := match tgt d (wipeD Δ vs) with
  | none => .stuck
  | some Δ1 => (cond Δ1).nox.bind fun b Δ2 => if b = true then (elt Δ2).nox.bind fun y Δ3 => .ok (some y) (restD Δ Δ3 vs) else .ok none (restD Δ Δ2 vs)
theorem e_stepC {vs : List Nat} {tgt : D → DEnv → Option DEnv} {cond : DEnv → Res Bool} {elt : DEnv → Res D} : stepC vs tgt cond elt d Δ = match tgt d (wipeD Δ vs) with
  | none => .stuck
  | some Δ1 => (cond Δ1).nox.bind fun b Δ2 => if b = true then (elt Δ2).nox.bind fun y Δ3 => .ok (some y) (restD Δ Δ3 vs) else .ok none (restD Δ Δ2 vs) := nr rfl
theorem e_wipe0 : wipeD Δ [] = Δ := nr rfl
theorem e_wipeS {v : Nat} {vs : List Nat} : wipeD Δ (v :: vs) = (wipeD Δ vs).set v .no := nr rfl
theorem e_rest0 : restD Δ Δ1 [] = Δ1 := nr rfl
theorem e_restS {v : Nat} {vs : List Nat} : restD Δ Δ1 (v :: vs) = match Δ[v]? with
    | some c => (restD Δ Δ1 vs).set v c
    | none => restD Δ Δ1 vs := nr rfl
theorem bind_ok {r : Res α} {f : α → DEnv → Res β} {b : β} (h : r.bind f = .ok b Δ) : ∃ a Δ1, r = .ok a Δ1 ∧ f a Δ1 = .ok b Δ := by
  cases r with
  | stuck => cases h
  | ex x Δ' => cases h
  | ok a Δ1 => exact ⟨a, Δ1, rfl, h⟩
theorem nox_ok {r : Res α} {a : α} (h : r.nox = .ok a Δ) : r = .ok a Δ := by
  cases r with
  | stuck => cases h
  | ex x Δ' => cases h
  | ok a Δ1 => exact h
theorem compM_st {γ : Type} {vs : List Nat} {tgt : D → DEnv → Option DEnv} {cond : DEnv → Res Bool} {elt : DEnv → Res D} {j : γ → D} {f : γ → Option D} : ∀ {xs : List γ} {acc : List D},
    (∀ x ∈ xs, stepC vs tgt cond elt (j x) Δ = .ok (f x) Δ) → compM vs tgt cond elt (xs.map j) acc Δ = .ok (acc ++ xs.filterMap f) Δ
  | [], acc, _ => by rw [List.filterMap_nil, List.append_nil]; rfl
  | x :: xs, acc, h => by
    have h1 := h x (by simp)
    have ih := fun acc => compM_st (acc := acc) fun z hz => h z (List.mem_cons_of_mem x hz)
    rw [List.map_cons]
    unfold compM
    unfold stepC at h1
    cases q : tgt (j x) (wipeD Δ vs) with
    | none => rw [q] at h1; cases h1
    | some Δ1 =>
      rw [q] at h1
      obtain ⟨b, Δ2, g1, g2⟩ := bind_ok h1
      show (cond Δ1).nox.bind _ = _
      rw [g1, bind_ok_]
      cases b with
      | true =>
        rw [if_pos rfl] at g2 ⊢
        obtain ⟨y, Δ3, g3, g4⟩ := bind_ok g2
        rw [g3, bind_ok_]
        injection g4 with g5 g6
        rw [g6, ih, List.filterMap_cons, ← g5, List.append_assoc]; rfl
      | false =>
        rw [if_neg (by decide)] at g2 ⊢
        injection g2 with g5 g6
        rw [g6, ih, List.filterMap_cons, ← g5]
theorem lcM_st {γ : Type} {vs : List Nat} {mi : DEnv → Res (List D)} {tgt : D → DEnv → Option DEnv} {cond : DEnv → Res Bool} {elt : DEnv → Res D} {Δ0 : DEnv} (j : γ → D) (f : γ → Option D) {xs : List γ} (hi : mi Δ0 = .ok (xs.map j) Δ) (hl : xs.length < 16777216) (hp : (vs.all fun v => plainC Δ[v]?) = true)
    (h : ∀ x ∈ xs, stepC vs tgt cond elt (j x) Δ = .ok (f x) Δ) : lcM vs mi tgt cond elt Δ0 = .ok (xs.filterMap f) Δ := by
  unfold lcM
  rw [hi, bind_ok_, List.length_map, decide_eq_true hl, hp]
  show gd true _ = _
  rw [gd_true_, compM_st h, List.nil_append]
theorem fm_map {γ : Type} {o : γ → D} {xs : List γ} : xs.filterMap (fun x => some (o x)) = xs.map o := by rw [List.filterMap_eq_map']
theorem fm_filter {γ : Type} {t : γ → Bool} {o : γ → D} : ∀ {xs : List γ}, xs.filterMap (fun x => if t x = true then some (o x) else none) = (xs.filter t).map o
  | [] => rfl
  | x :: xs => by
    have ih := fm_filter (t := t) (o := o) (xs := xs)
    rw [List.filterMap_cons, List.filter_cons]
    cases q : t x with
    | true => simp only [if_true, List.map_cons, ih]
    | false => simp only [Bool.false_eq_true, if_false, ih]
/-- all items go in -/
theorem lcM_m {γ : Type} {vs : List Nat} {mi : DEnv → Res (List D)} {tgt : D → DEnv → Option DEnv} {cond : DEnv → Res Bool} {elt : DEnv → Res D} {Δ0 : DEnv} (j : γ → D) (o : γ → D) {xs : List γ} (hi : mi Δ0 = .ok (xs.map j) Δ) (hl : xs.length < 16777216) (hp : (vs.all fun v => plainC Δ[v]?) = true)
    (h : ∀ x ∈ xs, stepC vs tgt cond elt (j x) Δ = .ok (some (o x)) Δ) : lcM vs mi tgt cond elt Δ0 = .ok (xs.map o) Δ := by
  rw [lcM_st j (fun x => some (o x)) hi hl hp h, fm_map]
theorem lcM_f {γ : Type} {vs : List Nat} {mi : DEnv → Res (List D)} {tgt : D → DEnv → Option DEnv} {cond : DEnv → Res Bool} {elt : DEnv → Res D} {Δ0 : DEnv} (j : γ → D) (t : γ → Bool) (o : γ → D) {xs : List γ} (hi : mi Δ0 = .ok (xs.map j) Δ) (hl : xs.length < 16777216) (hp : (vs.all fun v => plainC Δ[v]?) = true)
    (h : ∀ x ∈ xs, stepC vs tgt cond elt (j x) Δ = .ok (if t x = true then some (o x) else none) Δ) : lcM vs mi tgt cond elt Δ0 = .ok ((xs.filter t).map o) Δ := by
  rw [lcM_st j (fun x => if t x = true then some (o x) else none) hi hl hp h, fm_filter]
theorem e_for0 {tgt : D → DEnv → Option DEnv} {body : DEnv → SRes} : forM tgt body [] Δ = .nx Δ := nr rfl
theorem e_forS {tgt : D → DEnv → Option DEnv} {body : DEnv → SRes} {xs : List D} : forM tgt body (d :: xs) Δ = match tgt d Δ with
  | none => .stuck
  | some Δ1 => (body Δ1).loop (forM tgt body xs) := nr rfl
theorem e_nox {a : α} : (Res.ok a Δ).nox = .ok a Δ := nr rfl
theorem e_plain_no : plainC (some .no) = true := nr rfl
theorem e_plain_va : plainC (some (.va d)) = true := nr rfl
theorem e_all0 {p : Nat → Bool} : ([] : List Nat).all p = true := nr rfl
theorem e_allS {p : Nat → Bool} {v : Nat} {vs : List Nat} : (v :: vs).all p = (p v && vs.all p) := nr rfl
theorem e_slt0 {n : Nat} {ms : DEnv → SRes} {N : Nat} {cs : DEnv} : bodyF n N ms cs = (ms (cs ++ List.replicate (N - n) .no)).fin n := nr rfl
theorem e_kpD : kpD 0 Δ = [] := nr rfl
def kpc (n : Nat) (Δ : DEnv) : DEnv := match n, Δ with
  | 0, _ => []
  | n + 1, c :: Δ => keepC c :: kpc n Δ
  | n + 1, [] => .no :: kpc n []
theorem kpc_nil (n : Nat) : kpc n [] = List.replicate n .no := by
  induction n with
  | zero => rfl
  | succ n ih => show Cell.no :: kpc n [] = _; rw [ih]; rfl
theorem kpD_kpc : ∀ (n : Nat) (Δ : DEnv), kpD n Δ = kpc n Δ
  | 0, _ => rfl
  | n + 1, [] => by
    rw [kpc_nil]
    unfold kpD
    apply List.ext_getElem
    · simp
    · intro i h1 h2; simp
  | n + 1, c :: Δ => by
    have ih := kpD_kpc n Δ
    show kpD (n + 1) (c :: Δ) = keepC c :: kpc n Δ
    rw [← ih]
    unfold kpD
    rw [List.range_succ_eq_map, List.map_cons, List.map_map]
    congr 1
    · cases c <;> rfl
theorem e_kpc0 : kpc 0 Δ = [] := nr rfl
theorem e_kpcS {n : Nat} {c : Cell} : kpc (n + 1) (c :: Δ) = keepC c :: kpc n Δ := nr rfl
end
end KL
/-! KL, part z: the greatest of ints, two-clause comprehensions computed. -/
namespace KL
open PySem L2
theorem pyLt_int (i j : Int) : pyLt (.int i) (.int j) = decide (i < j) := by
  show PySem.W.dataLt (.int i) (.int j) = _
  exact PySem.W.dataLt_int i j
theorem okL_int (l : List Int) : okL (l.map D.int) = true := by
  unfold okL
  rw [List.all_eq_true]
  intro d hd
  obtain ⟨i, _, rfl⟩ := List.mem_map.mp hd
  have h2 : pyOf (.int i) = .int i := rfl
  have h3 : (PyData.int i).depth ≤ 60 := by simp [PyData.depth]
  rw [h2, decide_eq_true h3]
  show ((toPy (.int i)).isSome && notNone (.int i) && true && (List.map D.int l).all _) = true
  simp only [Bool.and_true, Bool.and_eq_true]
  refine ⟨⟨rfl, rfl⟩, ?_⟩
  rw [List.all_eq_true]
  intro e he
  obtain ⟨j, _, rfl⟩ := List.mem_map.mp he
  show PySem.W.alike (.int i) (.int j) = true
  simp [PySem.W.alike]
def bestI (lt : Int → Int → Bool) (l : List Int) (z : Int) : Int := l.foldl (fun a y => if lt y a = true then y else a) z
theorem bestI_fold (f : D → D → Bool) (lt : Int → Int → Bool) (h : ∀ i j, f (.int i) (.int j) = lt i j) : ∀ (l : List Int) (z : Int), (l.map D.int).foldl (fun a y => if f y a = true then y else a) (.int z) = .int (bestI lt l z)
  | [], _ => rfl
  | x :: l, z => by
    show (l.map D.int).foldl _ (if f (.int x) (.int z) = true then D.int x else D.int z) = _
    rw [h]
    have e : (if lt x z = true then D.int x else D.int z) = D.int (if lt x z = true then x else z) := by split <;> rfl
    rw [e, bestI_fold f lt h l]; rfl
theorem bestI_mem (lt : Int → Int → Bool) : ∀ (l : List Int) (z : Int), bestI lt l z ∈ z :: l
  | [], z => by simp [bestI]
  | x :: l, z => by
    have ih := bestI_mem lt l (if lt x z = true then x else z)
    show bestI lt l (if lt x z = true then x else z) ∈ _
    rcases List.mem_cons.mp ih with h | h
    · rw [h]; split <;> simp
    · simp [h]
theorem maxI_ge : ∀ (l : List Int) (z : Int), ∀ y ∈ z :: l, y ≤ bestI (fun x y => decide (y < x)) l z
  | [], z, y, hy => by rw [List.mem_singleton.mp hy]; exact Int.le_refl _
  | x :: l, z, y, hy => by
    have ih := maxI_ge l (if decide (z < x) = true then x else z)
    show y ≤ bestI _ l (if decide (z < x) = true then x else z)
    have h0 := ih _ (List.mem_cons_self ..)
    rcases List.mem_cons.mp hy with rfl | hy
    · by_cases h : y < x
      · rw [decide_eq_true h, if_pos rfl] at h0 ⊢; omega
      · rw [decide_eq_false h, if_neg (by decide)] at h0 ⊢; exact h0
    · rcases List.mem_cons.mp hy with rfl | hy
      · by_cases h : z < y
        · rw [decide_eq_true h, if_pos rfl] at h0 ⊢; exact h0
        · rw [decide_eq_false h, if_neg (by decide)] at h0 ⊢; omega
      · exact ih y (List.mem_cons_of_mem _ hy)
theorem minI_le : ∀ (l : List Int) (z : Int), ∀ y ∈ z :: l, bestI (fun x y => decide (x < y)) l z ≤ y
  | [], z, y, hy => by rw [List.mem_singleton.mp hy]; exact Int.le_refl _
  | x :: l, z, y, hy => by
    have ih := minI_le l (if decide (x < z) = true then x else z)
    show bestI _ l (if decide (x < z) = true then x else z) ≤ y
    have h0 := ih _ (List.mem_cons_self ..)
    rcases List.mem_cons.mp hy with rfl | hy
    · by_cases h : x < y
      · rw [decide_eq_true h, if_pos rfl] at h0 ⊢; omega
      · rw [decide_eq_false h, if_neg (by decide)] at h0 ⊢; exact h0
    · rcases List.mem_cons.mp hy with rfl | hy
      · by_cases h : y < z
        · rw [decide_eq_true h, if_pos rfl] at h0 ⊢; exact h0
        · rw [decide_eq_false h, if_neg (by decide)] at h0 ⊢; omega
      · exact ih y (List.mem_cons_of_mem _ hy)
theorem maxD_int {l : List Int} (h : l ≠ []) : ∃ m ∈ l, maxD (.lst (l.map D.int)) = some (.int m) ∧ ∀ y ∈ l, y ≤ m := by
  cases l with
  | nil => exact absurd rfl h
  | cons z l =>
    refine ⟨bestI (fun x y => decide (y < x)) l z, bestI_mem _ l z, ?_, maxI_ge l z⟩
    show (if okL (D.int z :: l.map D.int) = true then some ((l.map D.int).foldl (fun a y => if pyLt a y = true then y else a) (D.int z)) else none) = _
    rw [if_pos (show okL (D.int z :: l.map D.int) = true from okL_int (z :: l))]
    exact congrArg some (bestI_fold (fun x y => pyLt y x) (fun x y => decide (y < x)) (fun i j => pyLt_int j i) l z)
theorem minD_int {l : List Int} (h : l ≠ []) : ∃ m ∈ l, minD (.lst (l.map D.int)) = some (.int m) ∧ ∀ y ∈ l, m ≤ y := by
  cases l with
  | nil => exact absurd rfl h
  | cons z l =>
    refine ⟨bestI (fun x y => decide (x < y)) l z, bestI_mem _ l z, ?_, minI_le l z⟩
    show (if okL (D.int z :: l.map D.int) = true then some ((l.map D.int).foldl (fun a y => if pyLt y a = true then y else a) (D.int z)) else none) = _
    rw [if_pos (show okL (D.int z :: l.map D.int) = true from okL_int (z :: l))]
    exact congrArg some (bestI_fold pyLt (fun x y => decide (x < y)) pyLt_int l z)
section
variable {Δ : DEnv}
/-- two clauses, all items go in -/
theorem comp2M_m {γ δ : Type} {vs vs1 : List Nat} {tgt tgt1 : D → DEnv → Option DEnv} {cond cond1 : DEnv → Res Bool} {mi1 : DEnv → Res (List D)} {elt : DEnv → Res D} {j : γ → D} {j1 : δ → D} {ys : γ → List δ} {o : γ → δ → D} : ∀ {xs : List γ} {acc : List D},
    acc.length + (xs.flatMap ys).length < 16777216 →
    (∀ x ∈ xs, ∃ Δ1 Δ2 Δ3, tgt (j x) (wipeD Δ vs) = some Δ1 ∧ cond Δ1 = .ok true Δ2 ∧ mi1 Δ2 = .ok ((ys x).map j1) Δ3 ∧ (vs1.all fun v => plainC Δ3[v]?) = true ∧ (∀ y ∈ ys x, stepC vs1 tgt1 cond1 elt (j1 y) Δ3 = .ok (some (o x y)) Δ3) ∧ restD Δ Δ3 vs = Δ) →
    comp2M vs tgt cond vs1 mi1 tgt1 cond1 elt (xs.map j) acc Δ = .ok (acc ++ xs.flatMap fun x => (ys x).map (o x)) Δ
  | [], acc, _, _ => by rw [List.flatMap_nil, List.append_nil]; rfl
  | x :: xs, acc, hl, h => by
    obtain ⟨Δ1, Δ2, Δ3, e1, e2, e3, e4, e5, e6⟩ := h x (by simp)
    rw [List.flatMap_cons, List.length_append] at hl
    rw [List.map_cons]
    unfold comp2M
    rw [e1]
    show (cond Δ1).nox.bind _ = _
    rw [e2, nox_ok_, bind_ok_, if_pos rfl, e3, nox_ok_, bind_ok_, e4, List.length_map, decide_eq_true (by omega)]
    show gd true _ = _
    rw [gd_true_, compM_st (f := fun y => some (o x y)) e5, fm_map, nox_ok_, bind_ok_, e6]
    rw [comp2M_m (by rw [List.length_append, List.length_map]; omega) fun z hz => h z (List.mem_cons_of_mem x hz), List.flatMap_cons, List.append_assoc]
theorem lc2M_m {γ δ : Type} {vs vs1 : List Nat} {mi : DEnv → Res (List D)} {tgt tgt1 : D → DEnv → Option DEnv} {cond cond1 : DEnv → Res Bool} {mi1 : DEnv → Res (List D)} {elt : DEnv → Res D} {Δ0 : DEnv} (j : γ → D) (j1 : δ → D) (ys : γ → List δ) (o : γ → δ → D) {xs : List γ} (hi : mi Δ0 = .ok (xs.map j) Δ)
    (hl : (xs.flatMap ys).length < 16777216) (hp : (vs.all fun v => plainC Δ[v]?) = true)
    (h : ∀ x ∈ xs, ∃ Δ1 Δ2 Δ3, tgt (j x) (wipeD Δ vs) = some Δ1 ∧ cond Δ1 = .ok true Δ2 ∧ mi1 Δ2 = .ok ((ys x).map j1) Δ3 ∧ (vs1.all fun v => plainC Δ3[v]?) = true ∧ (∀ y ∈ ys x, stepC vs1 tgt1 cond1 elt (j1 y) Δ3 = .ok (some (o x y)) Δ3) ∧ restD Δ Δ3 vs = Δ) :
    lc2M vs mi tgt cond vs1 mi1 tgt1 cond1 elt Δ0 = .ok (xs.flatMap fun x => (ys x).map (o x)) Δ := by
  unfold lc2M
  rw [hi, bind_ok_, hp]
  show gd true _ = _
  rw [gd_true_, comp2M_m (by simpa using hl) h, List.nil_append]
end
end KL
/-! KL, part za: comprehensions that change the frame; letters, put places. -/
namespace KL
open PySem L2
section
variable {Δ : DEnv}
/-- a comprehension whose items change the frame: a property that each turn keeps -/
theorem compM_inv {vs : List Nat} {tgt : D → DEnv → Option DEnv} {cond : DEnv → Res Bool} {elt : DEnv → Res D} {P : Nat → List D → DEnv → Prop} : ∀ {xs acc : List D} {Δ : DEnv} (k : Nat), P k acc Δ →
    (∀ x ∈ xs, ∀ k acc Δ, P k acc Δ → ∃ y Δ', stepC vs tgt cond elt x Δ = .ok (some y) Δ' ∧ P (k + 1) (acc ++ [y]) Δ') → ∃ acc' Δ', compM vs tgt cond elt xs acc Δ = .ok acc' Δ' ∧ P (k + xs.length) acc' Δ'
  | [], acc, Δ, k, h, _ => ⟨acc, Δ, rfl, h⟩
  | x :: xs, acc, Δ, k, h, hs => by
    obtain ⟨y, Δ', e, p⟩ := hs x (by simp) k acc Δ h
    obtain ⟨acc', Δ2, e2, p2⟩ := compM_inv (xs := xs) (k + 1) p fun z hz => hs z (List.mem_cons_of_mem x hz)
    refine ⟨acc', Δ2, ?_, by rw [List.length_cons, show k + (xs.length + 1) = k + 1 + xs.length by omega]; exact p2⟩
    rw [← e2]
    unfold stepC at e
    conv => lhs; unfold compM
    cases q : tgt x (wipeD Δ vs) with
    | none => rw [q] at e; cases e
    | some Δ1 =>
      rw [q] at e
      obtain ⟨b, Δ3, g1, g2⟩ := bind_ok e
      show (cond Δ1).nox.bind _ = _
      rw [g1, bind_ok_]
      cases b with
      | true =>
        rw [if_pos rfl] at g2 ⊢
        obtain ⟨z, Δ4, g3, g4⟩ := bind_ok g2
        rw [g3, bind_ok_]
        injection g4 with g5 g6
        injection g5 with g5
        rw [g6, g5]
      | false =>
        rw [if_neg (by decide)] at g2
        injection g2 with g5 g6
        cases g5
theorem lcM_inv {vs : List Nat} {mi : DEnv → Res (List D)} {tgt : D → DEnv → Option DEnv} {cond : DEnv → Res Bool} {elt : DEnv → Res D} {Δ0 : DEnv} {xs : List D} (P : Nat → List D → DEnv → Prop) (hi : mi Δ0 = .ok xs Δ) (hl : xs.length < 16777216) (hp : (vs.all fun v => plainC Δ[v]?) = true) (h0 : P 0 [] Δ)
    (hs : ∀ x ∈ xs, ∀ k acc Δ, P k acc Δ → ∃ y Δ', stepC vs tgt cond elt x Δ = .ok (some y) Δ' ∧ P (k + 1) (acc ++ [y]) Δ') : ∃ acc' Δ', lcM vs mi tgt cond elt Δ0 = .ok acc' Δ' ∧ P xs.length acc' Δ' := by
  obtain ⟨a, b, e, p⟩ := compM_inv 0 h0 hs
  refine ⟨a, b, ?_, by rw [Nat.zero_add] at p; exact p⟩
  unfold lcM
  rw [hi, bind_ok_, decide_eq_true hl, hp]
  show gd true _ = _
  rw [gd_true_, e]
/-- a walk that keeps a property -/
theorem forM_inv {tgt : D → DEnv → Option DEnv} {body : DEnv → SRes} {P : DEnv → Prop} : ∀ {xs : List D} {Δ : DEnv}, P Δ → (∀ x ∈ xs, ∀ Δ, P Δ → ∃ Δ1 Δ2, tgt x Δ = some Δ1 ∧ body Δ1 = .nx Δ2 ∧ P Δ2) → ∃ Δ', forM tgt body xs Δ = .nx Δ' ∧ P Δ'
  | [], Δ, h, _ => ⟨Δ, rfl, h⟩
  | x :: xs, Δ, h, hs => by
    obtain ⟨Δ1, Δ2, e1, e2, p⟩ := hs x (by simp) Δ h
    obtain ⟨Δ', e3, p3⟩ := forM_inv (xs := xs) p fun z hz => hs z (List.mem_cons_of_mem x hz)
    refine ⟨Δ', ?_, p3⟩
    rw [e_forS, e1]
    show (body Δ1).loop _ = _
    rw [e2, loop_nx, e3]
theorem e_range1M {m : DEnv → Res D} : range1M m Δ = (m Δ).bind rng1 := by rw [range1_]
theorem e_augPutM {f : D → D → Option D} {i : Nat} {mi me : DEnv → Res D} : augPutM f i mi me Δ = match getL Δ i with
  | none => .stuck
  | some _ => (mi Δ).s (aug1 f i me) := nr rfl
theorem e_aug1 {f : D → D → Option D} {i : Nat} {me : DEnv → Res D} {j : Int} : aug1 f i me (.int j) Δ = match getL Δ i with
  | none => .stuck
  | some xs => match atI xs j with
      | none => .stuck
      | some y => (me Δ).s (aug2 f i j y) := by
  unfold aug1
  cases getL Δ i <;> rfl
theorem e_aug2 {f : D → D → Option D} {i : Nat} {j : Int} {y z : D} : aug2 f i j y z Δ = match getL Δ i with
  | none => .stuck
  | some xs => match f y z with
    | none => .stuck
    | some d => putL i xs j d Δ := nr rfl
theorem e_putL {i : Nat} {xs : List D} {j : Int} {d : D} : putL i xs j d Δ = match ixN xs.length j with
  | none => .stuck
  | some n => .nx (setL Δ i (xs.set n d)) := nr rfl
/-! letters -/
abbrev chD (c : Nat) : D := .str ⟨#[c]⟩
theorem ssOf_ch : ∀ cs : List Nat, ssOf (cs.map chD) = some (cs.map fun c => (⟨#[c]⟩ : Str))
  | [] => rfl
  | c :: cs => by
    show (ssOf (cs.map chD)).map _ = _
    rw [ssOf_ch cs]; rfl
theorem signs_S (cs : List Nat) : signs (S cs) = cs.map chD := by unfold signs S; simp
end
end KL
/-! KL, part zb: counting a letter, joining letters. -/
namespace KL
open PySem L2 PySem.Builtin PySem.Builtin.Str
theorem sub_one (cs : List Nat) (c i : Nat) : subAt (S cs) (S [c]) i = decide (cs[i]? = some c) := by
  rw [StrLaws.subAt_eq]
  show (((cs.drop i).take 1) == [c]) = _
  cases q : cs[i]? with
  | none =>
    have : cs.length ≤ i := List.getElem?_eq_none_iff.mp q
    rw [List.drop_of_length_le this]
    simp
  | some d =>
    obtain ⟨h, e⟩ := List.getElem?_eq_some_iff.mp q
    rw [List.drop_eq_getElem_cons h, e]
    by_cases hd : d = c
    · subst hd; simp
    · simp [hd]
theorem cnt_go (cs : List Nat) (c lim : Nat) : ∀ (n a : Nat) (st : Array Nat × Nat), st.2 ≤ a → st.1.size + n ≤ lim → (forIn (List.range' a n) st (StrLaws.occBody (S cs) (S [c]) (S cs).length lim)).run.fst.size = st.1.size + ((cs.drop a).take n).count c
  | 0, a, st, h, h2 => by simp
  | n + 1, a, st, h, h2 => by
    rw [List.range'_succ, List.forIn_cons]
    have hl : (S [c]).length = 1 := by rw [S_len]; rfl
    have hsl : (S cs).length = cs.length := S_len cs
    by_cases hc : cs[a]? = some c
    · obtain ⟨hlt, he⟩ := List.getElem?_eq_some_iff.mp hc
      have eb : StrLaws.occBody (S cs) (S [c]) (S cs).length lim a st = pure (ForInStep.yield (st.fst.push a, a + (S [c]).length)) := by
        unfold StrLaws.occBody
        rw [if_pos ⟨⟨⟨by omega, h⟩, by omega⟩, by rw [sub_one]; exact decide_eq_true hc⟩]
      have ih := cnt_go cs c lim n (a + 1) (st.1.push a, a + (S [c]).length) (by rw [hl]; exact Nat.le_refl _) (by simp; omega)
      rw [eb]
      show (forIn (List.range' (a + 1) n) (st.fst.push a, a + (S [c]).length) (StrLaws.occBody (S cs) (S [c]) (S cs).length lim)).run.fst.size = _
      rw [ih, List.drop_eq_getElem_cons hlt, he, List.take_succ_cons, List.count_cons_self]
      simp; omega
    · have eb : StrLaws.occBody (S cs) (S [c]) (S cs).length lim a st = pure (ForInStep.yield (st.fst, st.snd)) := by
        unfold StrLaws.occBody
        rw [if_neg fun z => hc (by have := z.2; rw [sub_one] at this; exact of_decide_eq_true this)]
      have ih := cnt_go cs c lim n (a + 1) (st.1, st.2) (by show st.2 ≤ a + 1; omega) (by show st.1.size + n ≤ lim; omega)
      rw [eb]
      show (forIn (List.range' (a + 1) n) (st.fst, st.snd) (StrLaws.occBody (S cs) (S [c]) (S cs).length lim)).run.fst.size = _
      rw [ih]
      congr 1
      by_cases hlt : a < cs.length
      · rw [List.drop_eq_getElem_cons hlt, List.take_succ_cons, List.count_cons_of_ne]
        intro e
        exact hc (by rw [List.getElem?_eq_getElem hlt, e])
      · rw [List.drop_of_length_le (by omega), List.drop_of_length_le (by omega)]; simp
theorem count_one (cs : List Nat) (c : Nat) : Txt.count (S cs) (S [c]) = (cs.count c : Nat) := by
  unfold Txt.count
  rw [StrLaws.occ_eq, Array.length_toList, cnt_go cs c _ _ 0 _ (Nat.le_refl _) (by simp), S_len]
  rw [show (#[] : Array Nat).size = 0 by rfl, Nat.zero_add, List.drop_zero, List.take_of_length_le (by omega)]
theorem joinL_ch : ∀ cs : List Nat, TL.joinL [] (cs.map fun c => [c]) = cs
  | [] => rfl
  | [c] => rfl
  | c :: d :: cs => by
    have := joinL_ch (d :: cs)
    show [c] ++ ([] ++ TL.joinL [] ((d :: cs).map fun c => [c])) = _
    rw [this]; rfl
theorem join_ch (cs : List Nat) (h : cs.length ≤ 16777216) : joinD "" (.lst (cs.map chD)) = some (.str (S cs)) := by
  unfold joinD
  simp only [ssOf_ch, Option.bind_some]
  have hs : ((cs.map fun c => (⟨#[c]⟩ : Str)).map (·.length)).sum = cs.length := by
    rw [List.map_map]
    clear h
    induction cs with
    | nil => rfl
    | cons c cs ih => rw [List.map_cons, List.sum_cons, ih, List.length_cons]; show 1 + cs.length = _; omega
  rw [hs, List.length_map]
  have h0 : ("" : Str).length = 0 := rfl
  rw [h0, if_pos (by omega)]
  have e := SX.join_S [] (cs.map fun c => [c])
  rw [List.map_map, joinL_ch] at e
  have e2 : Txt.join ("" : Str) (cs.map fun c => (⟨#[c]⟩ : Str)) = S cs := e
  rw [e2]
end KL
namespace KL
namespace K77
open PySem L2
abbrev top (i : Nat) : Stmt := PySem.Challenge.pw_kinwork_k77_whole_sums.main.body.getD i (.Pass ⟨0, 0, 0, 0⟩)
def d_STEPS : List (Str × D) := [("a", (.tup [(.int 1), (.int 0)])), ("A", (.tup [(.int (-1)), (.int 0)])), ("b", (.tup [(.int 0), (.int 1)])), ("B", (.tup [(.int 0), (.int (-1))]))]
def h_InvalidKind : Str → Option Bool := fun n => if n = "InvalidKind" then some true else none
/-! ### is_whole_number -/
abbrev s_is_whole_number : Stmt := top 5
abbrev N_is_whole_number : List Str := ["value"]
abbrev P_is_whole_number : List Str := ["value"]
def m_is_whole_number : DEnv → SRes := (retS (andV (isiM "int" (varM 0)) (notV (isiM "bool" (varM 0)))))
def F_is_whole_number : DEnv → FRes := bodyF 1 1 m_is_whole_number
theorem sc_is_whole_number : FnScope N_is_whole_number P_is_whole_number (defScope s_is_whole_number) := ⟨rfl, rfl, rfl, by decide +kernel, rfl, by decide +kernel, by decide +kernel⟩
/-! ### pair_of -/
abbrev s_pair_of : Stmt := top 7
abbrev N_pair_of : List Str := ["text", "found", "letter"]
abbrev P_pair_of : List Str := ["text"]
def pair_of_b1 : DEnv → SRes := (sq (augPutM iaddD 1 (cst (D.int 0)) (opM ixD (call1 (dcG d_STEPS) (varR 2)) (cst (D.int 0)))) (augPutM iaddD 1 (cst (D.int 1)) (opM ixD (call1 (dcG d_STEPS) (varR 2)) (cst (D.int 1)))))
def m_pair_of : DEnv → SRes := (sq (setOS 1 (lstM (consM (cst (D.int 0)) (consM (cst (D.int 0)) (cst ([] : List D)))))) (sq (forS (seqA (varM 0)) (tgN 2) pair_of_b1) (retS (call1 tupD (varR 1)))))
def F_pair_of : DEnv → FRes := bodyF 1 3 m_pair_of
theorem sc_pair_of : FnScope N_pair_of P_pair_of (defScope s_pair_of) := ⟨rfl, rfl, rfl, by decide +kernel, rfl, by decide +kernel, by decide +kernel⟩
/-! ### scaled -/
abbrev s_scaled : Stmt := top 8
abbrev N_scaled : List Str := ["row", "number", "one"]
abbrev P_scaled : List Str := ["row", "number"]
def m_scaled : DEnv → SRes := (retFS (lcM [2] (seqA (varM 0)) (tgN 2) (cst true) (opV mulG 2 (varR 1))))
def F_scaled : DEnv → FRes := bodyF 2 3 m_scaled
theorem sc_scaled : FnScope N_scaled P_scaled (defScope s_scaled) := ⟨rfl, rfl, rfl, by decide +kernel, rfl, by decide +kernel, by decide +kernel⟩
/-! ### less -/
abbrev s_less : Stmt := top 9
abbrev N_less : List Str := ["row", "other", "one", "two"]
abbrev P_less : List Str := ["row", "other"]
def m_less : DEnv → SRes := (retFS (lcM [2, 3] (opM zipD (varM 0) (varM 1)) (tgT 2 (tgsCons (tgN 2) (tgsCons (tgN 3) tgsNil))) (cst true) (opV subD 2 (varR 3))))
def F_less : DEnv → FRes := bodyF 2 4 m_less
theorem sc_less : FnScope N_less P_less (defScope s_less) := ⟨rfl, rfl, rfl, by decide +kernel, rfl, by decide +kernel, by decide +kernel⟩
/-! ### common_of -/
abbrev s_common_of : Stmt := top 14
abbrev N_common_of : List Str := ["one", "other"]
abbrev P_common_of : List Str := ["one", "other"]
def common_of_c1 : DEnv → Res Bool := (truM (varR 1))
def common_of_b2 : DEnv → SRes := (parM 0 1 (consM (varM 1) (consM (opV modG 0 (varR 1)) (cst ([] : List D)))))
def m_common_of : DEnv → SRes := (sq (whileM common_of_c1 common_of_b2 20000) (retS (call1 absD (varR 0))))
def F_common_of : DEnv → FRes := bodyF 2 2 m_common_of
theorem sc_common_of : FnScope N_common_of P_common_of (defScope s_common_of) := ⟨rfl, rfl, rfl, by decide +kernel, rfl, by decide +kernel, by decide +kernel⟩
/-! ### ring_of -/
abbrev s_ring_of : Stmt := top 16
abbrev N_ring_of : List Str := ["rows", "size", "_", "shift", "many"]
abbrev P_ring_of : List Str := ["rows"]
def m_ring_of : DEnv → SRes := (sq (asgM (varM 0) (tgT 2 (tgsCons (tgT 2 (tgsCons (tgN 1) (tgsCons (tgN 2) tgsNil))) (tgsCons (tgT 2 (tgsCons (tgN 3) (tgsCons (tgN 4) tgsNil))) tgsNil)))) (retS (tupM (consM (varM 1) (consM (varM 4) (consM (opM modG (negM (varM 3)) (varR 1)) (cst ([] : List D))))))))
def F_ring_of : DEnv → FRes := bodyF 1 5 m_ring_of
theorem sc_ring_of : FnScope N_ring_of P_ring_of (defScope s_ring_of) := ⟨rfl, rfl, rfl, by decide +kernel, rfl, by decide +kernel, by decide +kernel⟩
/-! ### _law_deck -/
abbrev s_law_deck : Stmt := top 19
abbrev N_law_deck : List Str := ["script", "cells", "each", "deck", "seed", "k", "cell", "rest", "at"]
abbrev P_law_deck : List Str := ["script", "cells", "each"]
def law_deck_b1 : DEnv → SRes := (sq (exprS (appendM 3 (opM modD (call1 intD1 (varR 7)) (cst (D.int 1000003))))) (setS 7 (opV divD 7 (cst (D.int 1000003)))))
def law_deck_b2 : DEnv → SRes := (sq (setS 4 (opM modD (call1 intD1 (opM addD (opM addD (opV mulD 4 (cst (D.int 69621))) (varR 8)) (cst (D.int 1)))) (cst (D.int 2147483629)))) (exprS (appendM 3 (opM modD (call1 intD1 (opV divD 4 (cst (D.int 5)))) (cst (D.int 1000003))))))
def law_deck_b3 : DEnv → SRes := (sq (setS 6 (cst (D.int 0))) (sq (ifS (asB (opV ltG 5 (call1 lenD (varR 0)))) (setS 6 (opV ixD 0 (varR 5))) SRes.nx) (sq (setS 7 (call1 absD (varR 6))) (ifS (asB (opV geG 7 (opM powD (cst (D.int 10)) (cst (D.int 30))))) (forS (range1M (varM 2)) (tgN 8) law_deck_b1) (sq (setS 4 (opM modD (call1 intD1 (opM addD (opM addD (opM addD (opV mulD 4 (cst (D.int 48271))) (opM mulD (cst (D.int 2)) (varR 7))) (call1 intD1 (opV ltG 6 (cst (D.int 0))))) (varR 5))) (cst (D.int 2147483647)))) (forS (range1M (varM 2)) (tgN 8) law_deck_b2))))))
def m_law_deck : DEnv → SRes := (sq (setOS 3 (lstM (cst ([] : List D)))) (sq (setS 4 (opM addD (cst (D.int 7)) (call1 lenD (varR 0)))) (sq (forS (range1M (varM 1)) (tgN 5) law_deck_b3) (sq (exprS (reverseM 3)) (retO 3)))))
def F_law_deck : DEnv → FRes := bodyF 3 9 m_law_deck
theorem sc_law_deck : FnScope N_law_deck P_law_deck (defScope s_law_deck) := ⟨rfl, rfl, rfl, by decide +kernel, rfl, by decide +kernel, by decide +kernel⟩
/-! ### _law_take -/
abbrev s_law_take : Stmt := top 20
abbrev N_law_take : List Str := ["deck", "many"]
abbrev P_law_take : List Str := ["deck", "many"]
def m_law_take : DEnv → SRes := (sq (ifS (asB (opM eqD (call1 lenD (varR 0)) (cst (D.int 0)))) (retS (cst (D.int 0))) SRes.nx) (retS (opM modD (call1 intD1 (popM 0)) (varR 1))))
def F_law_take : DEnv → FRes := bodyF 2 2 m_law_take
theorem sc_law_take : FnScope N_law_take P_law_take (defScope s_law_take) := ⟨rfl, rfl, rfl, by decide +kernel, rfl, by decide +kernel, by decide +kernel⟩
/-! ### _law_pair -/
abbrev s_law_pair : Stmt := top 22
abbrev N_law_pair : List Str := ["text"]
abbrev P_law_pair : List Str := ["text"]
def m_law_pair : DEnv → SRes := (retS (tupM (consM (opM subD (sm1M scountD (varM 0) (cst (D.str "a"))) (sm1M scountD (varM 0) (cst (D.str "A")))) (consM (opM subD (sm1M scountD (varM 0) (cst (D.str "b"))) (sm1M scountD (varM 0) (cst (D.str "B")))) (cst ([] : List D))))))
def F_law_pair : DEnv → FRes := bodyF 1 1 m_law_pair
theorem sc_law_pair : FnScope N_law_pair P_law_pair (defScope s_law_pair) := ⟨rfl, rfl, rfl, by decide +kernel, rfl, by decide +kernel, by decide +kernel⟩
/-! ### _law_in_sums -/
abbrev s_law_in_sums : Stmt := top 23
abbrev N_law_in_sums : List Str := ["pairs", "goal", "rows", "least", "low", "rest", "at", "row", "times", "left", "step", "one", "other", "pair"]
abbrev P_law_in_sums : List Str := ["pairs", "goal"]
def law_in_sums_b1 : DEnv → SRes := (sq (setS 8 (opM divG (opV ixD 7 (cst (D.int 1))) (opV ixD 4 (cst (D.int 1))))) (ifS (asB (opV neD 6 (varR 3))) (exprS (appendM 5 (lstE (lstM (consM (opM subD (opV ixD 7 (cst (D.int 0))) (opV mulG 8 (opV ixD 4 (cst (D.int 0))))) (consM (opM subD (opV ixD 7 (cst (D.int 1))) (opV mulG 8 (opV ixD 4 (cst (D.int 1))))) (cst ([] : List D)))))))) SRes.nx))
def law_in_sums_c2 : DEnv → Res Bool := (asB (opM gtG (call1 lenD (lstE (lcM [7] (seqA (varM 2)) (tgN 7) (asB (opM neD (opV ixD 7 (cst (D.int 1))) (cst (D.int 0)))) (varM 7)))) (cst (D.int 1))))
def law_in_sums_b3 : DEnv → SRes := (sq (setS 3 (opM ixD (call1 minD (lstE (lcM [6, 7] (enumM (varM 2)) (tgT 2 (tgsCons (tgN 6) (tgsCons (tgN 7) tgsNil))) (asB (opM neD (opV ixD 7 (cst (D.int 1))) (cst (D.int 0)))) (tupM (consM (call1 absD (opV ixD 7 (cst (D.int 1)))) (consM (varM 6) (cst ([] : List D)))))))) (cst (D.int 1)))) (sq (setS 4 (opV ixD 2 (varR 3))) (sq (setOS 5 (lstM (cst ([] : List D)))) (sq (forS (enumM (varM 2)) (tgT 2 (tgsCons (tgN 6) (tgsCons (tgN 7) tgsNil))) law_in_sums_b1) (setOS 2 (opM catF (lstE (lstM (consM (varM 4) (cst ([] : List D))))) (varR 5)))))))
def law_in_sums_b4 : DEnv → SRes := (ifS (asB (opM neD (opV ixD 7 (cst (D.int 1))) (cst (D.int 0)))) (sq (ifS (asB (opM neD (opM modG (opV ixD 9 (cst (D.int 1))) (opV ixD 7 (cst (D.int 1)))) (cst (D.int 0)))) (retS (cst (D.bl false))) SRes.nx) (sq (setS 8 (opM divG (opV ixD 9 (cst (D.int 1))) (opV ixD 7 (cst (D.int 1))))) (setOS 9 (lstM (consM (opM subD (opV ixD 9 (cst (D.int 0))) (opV mulG 8 (opV ixD 7 (cst (D.int 0))))) (consM (cst (D.int 0)) (cst ([] : List D)))))))) SRes.nx)
def law_in_sums_c5 : DEnv → Res Bool := (asB (opV gtG 12 (cst (D.int 0))))
def law_in_sums_b6 : DEnv → SRes := (parM 11 12 (consM (varM 12) (consM (opV modG 11 (varR 12)) (cst ([] : List D)))))
def law_in_sums_b7 : DEnv → SRes := (ifS (asB (opM eqD (opV ixD 7 (cst (D.int 1))) (cst (D.int 0)))) (sq (parM 11 12 (consM (varM 10) (consM (call1 absD (opV ixD 7 (cst (D.int 0)))) (cst ([] : List D))))) (sq (whileM law_in_sums_c5 law_in_sums_b6 20000) (setS 10 (varM 11)))) SRes.nx)
def m_law_in_sums : DEnv → SRes := (sq (setOS 2 (lcM [13] (seqA (varM 0)) (tgN 13) (cst true) (lstE (callF1 listF (varR 13))))) (sq (whileM law_in_sums_c2 law_in_sums_b3 20000) (sq (setOS 9 (callF1 listF (varR 1))) (sq (forS (seqA (varM 2)) (tgN 7) law_in_sums_b4) (sq (ifS (asB (opM neD (opV ixD 9 (cst (D.int 1))) (cst (D.int 0)))) (retS (cst (D.bl false))) SRes.nx) (sq (setS 10 (cst (D.int 0))) (sq (forS (seqA (varM 2)) (tgN 7) law_in_sums_b7) (retS (ifM (asB (opV eqD 10 (cst (D.int 0)))) (opM eqD (opV ixD 9 (cst (D.int 0))) (cst (D.int 0))) (opM eqD (opM modG (opV ixD 9 (cst (D.int 0))) (varR 10)) (cst (D.int 0))))))))))))
def F_law_in_sums : DEnv → FRes := bodyF 2 14 m_law_in_sums
theorem sc_law_in_sums : FnScope N_law_in_sums P_law_in_sums (defScope s_law_in_sums) := ⟨rfl, rfl, rfl, by decide +kernel, rfl, by decide +kernel, by decide +kernel⟩
/-! ### _law_shifted -/
abbrev s_law_shifted : Stmt := top 24
abbrev N_law_shifted : List Str := ["ring", "seat", "pair", "size", "many", "shift", "row", "turns"]
abbrev P_law_shifted : List Str := ["ring", "seat", "pair"]
def m_law_shifted : DEnv → SRes := (sq (asgM (varM 0) (tgT 3 (tgsCons (tgN 3) (tgsCons (tgN 4) (tgsCons (tgN 5) tgsNil))))) (sq (setS 6 (opM addD (opV ixD 1 (cst (D.int 0))) (opV ixD 2 (cst (D.int 1))))) (sq (setS 7 (opV divG 6 (varR 4))) (retS (tupM (consM (opV subD 6 (opV mulG 7 (varR 4))) (consM (opM modG (opM addD (opM addD (opV ixD 1 (cst (D.int 1))) (opV ixD 2 (cst (D.int 0)))) (opV mulG 7 (varR 5))) (varR 3)) (cst ([] : List D)))))))))
def F_law_shifted : DEnv → FRes := bodyF 3 8 m_law_shifted
theorem sc_law_shifted : FnScope N_law_shifted P_law_shifted (defScope s_law_shifted) := ⟨rfl, rfl, rfl, by decide +kernel, rfl, by decide +kernel, by decide +kernel⟩
/-! ### _law_form -/
abbrev s_law_form : Stmt := top 27
abbrev N_law_form : List Str := ["rows", "low", "high"]
abbrev P_law_form : List Str := ["rows"]
def m_law_form : DEnv → SRes := (sq (ifS (asB (opM eqD (call1 lenD (varR 0)) (cst (D.int 0)))) (retS (cst (D.bl true))) SRes.nx) (sq (ifS (asB (opM eqD (call1 lenD (varR 0)) (cst (D.int 1)))) (retS (orV (opM gtG (opM ixD (opV ixD 0 (cst (D.int 0))) (cst (D.int 1))) (cst (D.int 0))) (andV (opM eqD (opM ixD (opV ixD 0 (cst (D.int 0))) (cst (D.int 1))) (cst (D.int 0))) (opM gtG (opM ixD (opV ixD 0 (cst (D.int 0))) (cst (D.int 0))) (cst (D.int 0)))))) SRes.nx) (sq (asgM (varM 0) (tgT 2 (tgsCons (tgN 1) (tgsCons (tgN 2) tgsNil)))) (retS (andV (opM gtG (opV ixD 1 (cst (D.int 0))) (cst (D.int 0))) (andV (opM eqD (opV ixD 1 (cst (D.int 1))) (cst (D.int 0))) (andV (opM gtG (opV ixD 2 (cst (D.int 1))) (cst (D.int 0))) (chainM leG ltG (cst (D.int 0)) (opV ixD 2 (cst (D.int 0))) (opV ixD 1 (cst (D.int 0)))))))))))
def F_law_form : DEnv → FRes := bodyF 1 3 m_law_form
theorem sc_law_form : FnScope N_law_form P_law_form (defScope s_law_form) := ⟨rfl, rfl, rfl, by decide +kernel, rfl, by decide +kernel, by decide +kernel⟩
/-! ### check_pairs -/
abbrev s_check_pairs : Stmt := top 6
abbrev N_check_pairs : List Str := ["pairs", "pair", "one"]
abbrev P_check_pairs : List Str := ["pairs"]
def check_pairs_b1 : DEnv → SRes := (ifS (orM (notM (truM (isisM ["list", "tuple"] (varM 1)))) (orM (asB (opM neD (call1 lenD (varR 1)) (cst (D.int 2)))) (truM (lstE (lcM [2] (seqA (varM 1)) (tgN 2) (notM (truM (callM F_is_whole_number (aV (varM 2) (cst ([] : List Arg)))))) (varM 2)))))) (raiseM "InvalidKind" "what" (cst (D.str "pairs"))) SRes.nx)
def m_check_pairs : DEnv → SRes := (sq (ifS (notM (truM (isisM ["list", "tuple"] (varM 0)))) (raiseM "InvalidKind" "what" (cst (D.str "pairs"))) SRes.nx) (forS (seqA (varM 0)) (tgN 1) check_pairs_b1))
def F_check_pairs : DEnv → FRes := bodyF 1 3 m_check_pairs
theorem sc_check_pairs : FnScope N_check_pairs P_check_pairs (defScope s_check_pairs) := ⟨rfl, rfl, rfl, by decide +kernel, rfl, by decide +kernel, by decide +kernel⟩
/-! ### cleared -/
abbrev s_cleared : Stmt := top 10
abbrev N_cleared : List Str := ["rows", "place", "sizes", "least", "low", "others", "held", "at", "row"]
abbrev P_cleared : List Str := ["rows", "place"]
def cleared_c1 : DEnv → Res Bool := (asB (opM gtG (call1 lenD (lstE (lcM [8] (seqA (varM 0)) (tgN 8) (truM (opV ixD 8 (varR 1))) (varM 8)))) (cst (D.int 1))))
def cleared_b2 : DEnv → SRes := (sq (setOS 2 (lcM [7, 8] (enumM (varM 0)) (tgT 2 (tgsCons (tgN 7) (tgsCons (tgN 8) tgsNil))) (truM (opV ixD 8 (varR 1))) (tupM (consM (call1 absD (opV ixD 8 (varR 1))) (consM (varM 7) (cst ([] : List D))))))) (sq (setS 3 (opM ixD (call1 minD (varR 2)) (cst (D.int 1)))) (sq (setS 4 (opV ixD 0 (varR 3))) (sq (setOS 5 (lcM [7, 8] (enumM (varM 0)) (tgT 2 (tgsCons (tgN 7) (tgsCons (tgN 8) tgsNil))) (asB (opV neD 7 (varR 3))) (lstE (callF F_less (aV (varM 8) (aV (lstE (callF F_scaled (aV (varM 4) (aV (opM divG (opV ixD 8 (varR 1)) (opV ixD 4 (varR 1))) (cst ([] : List Arg)))))) (cst ([] : List Arg)))))))) (setOS 0 (opV catF 5 (lstE (lstM (consM (varM 4) (cst ([] : List D)))))))))))
def m_cleared : DEnv → SRes := (sq (setOS 0 (lcM [8] (seqA (varM 0)) (tgN 8) (cst true) (lstE (callF1 listF (varR 8))))) (sq (whileM cleared_c1 cleared_b2 20000) (sq (setOS 6 (lcM [8] (seqA (varM 0)) (tgN 8) (truM (opV ixD 8 (varR 1))) (ifM (asB (opM ltG (opV ixD 8 (varR 1)) (cst (D.int 0)))) (lstE (callF F_scaled (aV (varM 8) (aV (negM (cst (D.int 1))) (cst ([] : List Arg)))))) (varM 8)))) (retFS (opM catF (lstE (lcM [8] (seqA (varM 0)) (tgN 8) (notM (truM (opV ixD 8 (varR 1)))) (varM 8))) (varR 6))))))
def F_cleared : DEnv → FRes := bodyF 2 9 m_cleared
theorem sc_cleared : FnScope N_cleared P_cleared (defScope s_cleared) := ⟨rfl, rfl, rfl, by decide +kernel, rfl, by decide +kernel, by decide +kernel⟩
/-! ### enough_for -/
abbrev s_enough_for : Stmt := top 15
abbrev N_enough_for : List Str := ["rows", "goals", "first", "second", "many", "far", "goal", "one"]
abbrev P_enough_for : List Str := ["rows", "goals"]
def m_enough_for : DEnv → SRes := (sq (ifS (notM (truM (varR 0))) (retS (opM addD (cst (D.int 1)) (call1 maxD (lstE (opM catF (lstE (lstM (consM (cst (D.int 0)) (cst ([] : List D))))) (lstE (lc2M [6, 7] (seqA (varM 1)) (tgN 6) (cst true) [7] (seqA (varM 6)) (tgN 7) (cst true) (call1 absD (varR 7))))))))) SRes.nx) (sq (asgM (opV ixD 0 (cst (D.int 0))) (tgT 2 (tgsCons (tgN 2) (tgsCons (tgN 3) tgsNil)))) (sq (setS 4 (callM F_common_of (aV (varM 2) (aV (varM 3) (cst ([] : List Arg)))))) (sq (setOS 5 (lcM [6] (seqA (varM 1)) (tgN 6) (cst true) (call1 absD (opM subD (opM mulG (opV ixD 6 (cst (D.int 0))) (opV divG 3 (varR 4))) (opM mulG (opV ixD 6 (cst (D.int 1))) (opV divG 2 (varR 4))))))) (retS (opV mulG 4 (opM addD (cst (D.int 1)) (call1 maxD (lstE (opM catF (lstE (lstM (consM (cst (D.int 0)) (cst ([] : List D))))) (varR 5)))))))))))
def F_enough_for : DEnv → FRes := bodyF 2 8 m_enough_for
theorem sc_enough_for : FnScope N_enough_for P_enough_for (defScope s_enough_for) := ⟨rfl, rfl, rfl, by decide +kernel, rfl, by decide +kernel, by decide +kernel⟩
/-! ### _law_numbers -/
abbrev s_law_numbers : Stmt := top 25
abbrev N_law_numbers : List Str := ["deck", "most", "great"]
abbrev P_law_numbers : List Str := ["deck", "most"]
def m_law_numbers : DEnv → SRes := (sq (setS 2 (opM eqD (callM F_law_take (aO 0 (aV (cst (D.int 5)) (cst ([] : List Arg))))) (cst (D.int 0)))) (retS (opM mulG (opM subD (callM F_law_take (aO 0 (aV (opM addD (opM mulG (cst (D.int 2)) (varR 1)) (cst (D.int 1))) (cst ([] : List Arg))))) (varR 1)) (ifM (truM (varR 2)) (opM addD (opM powD (cst (D.int 10)) (cst (D.int 12))) (cst (D.int 39))) (cst (D.int 1))))))
def F_law_numbers : DEnv → FRes := bodyF 2 3 m_law_numbers
theorem sc_law_numbers : FnScope N_law_numbers P_law_numbers (defScope s_law_numbers) := ⟨rfl, rfl, rfl, by decide +kernel, rfl, by decide +kernel, by decide +kernel⟩
/-! ### form_of -/
abbrev s_form_of : Stmt := top 11
abbrev N_form_of : List Str := ["pairs", "rows", "high", "low", "at", "other", "pair", "row"]
abbrev P_form_of : List Str := ["pairs"]
def m_form_of : DEnv → SRes := (sq (setOS 1 (lcM [4, 6] (enumM (varM 0)) (tgT 2 (tgsCons (tgN 4) (tgsCons (tgN 6) tgsNil))) (cst true) (lstE (opM catF (lstE (callF1 listF (varR 6))) (lstE (lcM [5] (range1M (call1 lenD (varR 0))) (tgN 5) (cst true) (call1 intD1 (opV eqD 4 (varR 5))))))))) (sq (setOS 1 (callF F_cleared (aV (varM 1) (aV (cst (D.int 1)) (cst ([] : List Arg)))))) (sq (setOS 2 (lcM [7] (seqA (varM 1)) (tgN 7) (truM (opV ixD 7 (cst (D.int 1)))) (varM 7))) (sq (setOS 3 (lcM [7] (seqA (lstE (callF F_cleared (aV (lstE (lcM [7] (seqA (varM 1)) (tgN 7) (notM (truM (opV ixD 7 (cst (D.int 1))))) (varM 7))) (aV (cst (D.int 0)) (cst ([] : List Arg))))))) (tgN 7) (truM (opV ixD 7 (cst (D.int 0)))) (varM 7))) (sq (ifS (andM (truM (varR 2)) (truM (varR 3))) (setOS 2 (lstM (consM (lstE (callF F_less (aV (opV ixD 2 (cst (D.int 0))) (aV (lstE (callF F_scaled (aV (opV ixD 3 (cst (D.int 0))) (aV (opM divG (opM ixD (opV ixD 2 (cst (D.int 0))) (cst (D.int 0))) (opM ixD (opV ixD 3 (cst (D.int 0))) (cst (D.int 0)))) (cst ([] : List Arg)))))) (cst ([] : List Arg)))))) (cst ([] : List D))))) SRes.nx) (retFS (opV catF 3 (varR 2))))))))
def F_form_of : DEnv → FRes := bodyF 1 8 m_form_of
theorem sc_form_of : FnScope N_form_of P_form_of (defScope s_form_of) := ⟨rfl, rfl, rfl, by decide +kernel, rfl, by decide +kernel, by decide +kernel⟩
/-! ### sums_of -/
abbrev s_sums_of : Stmt := top 12
abbrev N_sums_of : List Str := ["pairs", "row"]
abbrev P_sums_of : List Str := ["pairs"]
def m_sums_of : DEnv → SRes := (sq (exprS (callM F_check_pairs (aV (varM 0) (cst ([] : List Arg))))) (retS (call1 tupD (lstE (lcM [1] (seqA (lstE (callF F_form_of (aV (varM 0) (cst ([] : List Arg)))))) (tgN 1) (cst true) (call1 tupD (slM slAD (varM 1) (cst (none : Option Int)) (someM (cst (D.int 2))))))))))
def F_sums_of : DEnv → FRes := bodyF 1 2 m_sums_of
theorem sc_sums_of : FnScope N_sums_of P_sums_of (defScope s_sums_of) := ⟨rfl, rfl, rfl, by decide +kernel, rfl, by decide +kernel, by decide +kernel⟩
/-! ### numbers_for -/
abbrev s_numbers_for : Stmt := top 13
abbrev N_numbers_for : List Str := ["pairs", "goal", "numbers", "rest", "row", "place", "times", "one", "two"]
abbrev P_numbers_for : List Str := ["pairs", "goal"]
def numbers_for_b1 : DEnv → SRes := (sq (setS 5 (ifM (truM (opV ixD 4 (cst (D.int 1)))) (cst (D.int 1)) (cst (D.int 0)))) (sq (setS 6 (opM divG (opV ixD 3 (varR 5)) (opV ixD 4 (varR 5)))) (sq (setOS 3 (callF F_less (aV (varM 3) (aV (lstE (callF F_scaled (aV (slM slAD (varM 4) (cst (none : Option Int)) (someM (cst (D.int 2)))) (aV (varM 6) (cst ([] : List Arg)))))) (cst ([] : List Arg)))))) (setOS 2 (lcM [7, 8] (opM zipD (varM 2) (slM slAD (varM 4) (someM (cst (D.int 2))) (cst (none : Option Int)))) (tgT 2 (tgsCons (tgN 7) (tgsCons (tgN 8) tgsNil))) (cst true) (opV addD 7 (opV mulG 8 (varR 6))))))))
def m_numbers_for : DEnv → SRes := (sq (exprS (callM F_check_pairs (aV (varM 0) (cst ([] : List Arg))))) (sq (exprS (callM F_check_pairs (aV (lstE (lstM (consM (varM 1) (cst ([] : List D))))) (cst ([] : List Arg))))) (sq (setOS 2 (opM repF (lstE (lstM (consM (cst (D.int 0)) (cst ([] : List D))))) (call1 lenD (varR 0)))) (sq (setOS 3 (callF1 listF (varR 1))) (sq (forS (seqA (lstE (revF (lstE (callF F_form_of (aV (varM 0) (cst ([] : List Arg)))))))) (tgN 4) numbers_for_b1) (retS (ifM (orM (truM (opV ixD 3 (cst (D.int 0)))) (truM (opV ixD 3 (cst (D.int 1))))) (cst D.non) (call1 tupD (varR 2)))))))))
def F_numbers_for : DEnv → FRes := bodyF 2 9 m_numbers_for
theorem sc_numbers_for : FnScope N_numbers_for P_numbers_for (defScope s_numbers_for) := ⟨rfl, rfl, rfl, by decide +kernel, rfl, by decide +kernel, by decide +kernel⟩
/-! ### ring_for -/
abbrev s_ring_for : Stmt := top 17
abbrev N_ring_for : List Str := ["pairs", "goals", "rows", "many"]
abbrev P_ring_for : List Str := ["pairs", "goals"]
def m_ring_for : DEnv → SRes := (sq (exprS (callM F_check_pairs (aV (varM 1) (cst ([] : List Arg))))) (sq (setS 2 (callM F_sums_of (aV (varM 0) (cst ([] : List Arg))))) (sq (ifS (asB (opM ltG (call1 lenD (varR 2)) (cst (D.int 2)))) (sq (setS 3 (callM F_enough_for (aV (varM 2) (aV (varM 1) (cst ([] : List Arg)))))) (setS 2 (callM F_sums_of (aV (lstE (opM catF (lstE (callF1 listF (varR 0))) (lstE (lstM (consM (tupM (consM (varM 3) (consM (cst (D.int 0)) (cst ([] : List D))))) (consM (tupM (consM (cst (D.int 0)) (consM (varM 3) (cst ([] : List D))))) (cst ([] : List D)))))))) (cst ([] : List Arg)))))) SRes.nx) (retS (callM F_ring_of (aV (varM 2) (cst ([] : List Arg))))))))
def F_ring_for : DEnv → FRes := bodyF 2 4 m_ring_for
theorem sc_ring_for : FnScope N_ring_for P_ring_for (defScope s_ring_for) := ⟨rfl, rfl, rfl, by decide +kernel, rfl, by decide +kernel, by decide +kernel⟩
/-! ### _law_refusal -/
abbrev s_law_refusal : Stmt := top 26
abbrev N_law_refusal : List Str := ["way", "error"]
abbrev P_law_refusal : List Str := ["way"]
def m_law_refusal : DEnv → SRes := (sq (tryM 1 h_InvalidKind (ifS (asB (opV eqD 0 (cst (D.int 0)))) (exprS (callM F_sums_of (aV (lstE (lstM (consM (tupM (consM (cst (D.int 1)) (consM (cst (D.int 2)) (consM (cst (D.int 3)) (cst ([] : List D)))))) (cst ([] : List D))))) (cst ([] : List Arg))))) (ifS (asB (opV eqD 0 (cst (D.int 1)))) (exprS (callM F_numbers_for (aV (lstE (lstM (consM (tupM (consM (cst (D.int 1)) (consM (cst (D.int 2)) (cst ([] : List D))))) (cst ([] : List D))))) (aV (tupM (consM (cst (D.int 1)) (consM (cst (D.bl true)) (cst ([] : List D))))) (cst ([] : List Arg)))))) (ifS (asB (opV eqD 0 (cst (D.int 2)))) (exprS (callM F_ring_for (aV (lstE (lstM (consM (tupM (consM (cst (D.int 0)) (consM (cst (D.int 1)) (cst ([] : List D))))) (cst ([] : List D))))) (aV (cst (D.int 5)) (cst ([] : List Arg)))))) (exprS (callM F_ring_for (aV (cst (D.str "ab")) (aV (lstE (lstM (cst ([] : List D)))) (cst ([] : List Arg))))))))) (retS (xfM 1 "what"))) (retS (cst D.non)))
def F_law_refusal : DEnv → FRes := bodyF 1 2 m_law_refusal
theorem sc_law_refusal : FnScope N_law_refusal P_law_refusal (defScope s_law_refusal) := ⟨rfl, rfl, rfl, by decide +kernel, rfl, by decide +kernel, by decide +kernel⟩
/-! ### law -/
abbrev s_law : Stmt := top 28
abbrev N_law : List Str := ["script", "deck", "pairs", "rows", "row", "pair", "goals", "turn", "goal", "times", "held", "numbers", "total", "ring", "text", "at"]
abbrev P_law : List Str := ["script"]
def law_b1 : DEnv → SRes := (ifS (notM (truM (callM F_law_in_sums (aV (varM 2) (aV (varM 4) (cst ([] : List Arg))))))) (retS (cst (D.bl false))) SRes.nx)
def law_b2 : DEnv → SRes := (ifS (notM (truM (callM F_law_in_sums (aV (varM 3) (aV (varM 5) (cst ([] : List Arg))))))) (retS (cst (D.bl false))) SRes.nx)
def law_b3 : DEnv → SRes := (sq (setS 9 (opM subD (callM F_law_take (aO 1 (aV (cst (D.int 7)) (cst ([] : List Arg))))) (cst (D.int 3)))) (setOS 8 (lcM [15] (range1M (cst (D.int 2))) (tgN 15) (cst true) (opM addD (opM mulG (opV ixD 8 (varR 15)) (call1 intD1 (opM eqD (opM modG (call1 lenD (varR 6)) (cst (D.int 2))) (cst (D.int 1))))) (opM mulG (opV ixD 5 (varR 15)) (varR 9))))))
def law_b4 : DEnv → SRes := (sq (setOS 8 (lstM (consM (callM F_law_numbers (aO 1 (aV (cst (D.int 8)) (cst ([] : List Arg))))) (consM (callM F_law_numbers (aO 1 (aV (cst (D.int 8)) (cst ([] : List Arg))))) (cst ([] : List D)))))) (sq (ifS (asB (opM eqD (callM F_law_take (aO 1 (aV (cst (D.int 2)) (cst ([] : List Arg))))) (cst (D.int 0)))) (forS (seqA (varM 2)) (tgN 5) law_b3) SRes.nx) (exprS (appendM 6 (call1 tupD (varR 8))))))
def law_b5 : DEnv → SRes := (sq (setS 10 (callM F_law_in_sums (aV (varM 2) (aV (varM 8) (cst ([] : List Arg)))))) (sq (setS 11 (callM F_numbers_for (aV (varM 2) (aV (varM 8) (cst ([] : List Arg)))))) (sq (ifS (asB (opM neD (opV isntD 11 (cst D.non)) (varR 10))) (retS (cst (D.bl false))) SRes.nx) (ifS (asB (opV isntD 11 (cst D.non))) (sq (setOS 12 (lcM [15] (range1M (cst (D.int 2))) (tgN 15) (cst true) (call1 sumD (lstE (lcM [5, 9] (opM zipD (varM 2) (varM 11)) (tgT 2 (tgsCons (tgN 5) (tgsCons (tgN 9) tgsNil))) (cst true) (opM mulG (opV ixD 5 (varR 15)) (varR 9))))))) (ifS (orM (asB (opM neD (call1 lenD (varR 11)) (call1 lenD (varR 2)))) (asB (opM neD (call1 tupD (varR 12)) (varR 8)))) (retS (cst (D.bl false))) SRes.nx)) SRes.nx))))
def law_b6 : DEnv → SRes := (ifS (asB (opM neD (callM F_law_shifted (aV (varM 13) (aV (tupM (consM (cst (D.int 0)) (consM (cst (D.int 0)) (cst ([] : List D))))) (aV (varM 5) (cst ([] : List Arg)))))) (tupM (consM (cst (D.int 0)) (consM (cst (D.int 0)) (cst ([] : List D))))))) (retS (cst (D.bl false))) SRes.nx)
def law_b7 : DEnv → SRes := (ifS (andM (notM (truM (callM F_law_in_sums (aV (varM 2) (aV (varM 8) (cst ([] : List Arg))))))) (asB (opM eqD (callM F_law_shifted (aV (varM 13) (aV (tupM (consM (cst (D.int 0)) (consM (cst (D.int 0)) (cst ([] : List D))))) (aV (varM 8) (cst ([] : List Arg)))))) (tupM (consM (cst (D.int 0)) (consM (cst (D.int 0)) (cst ([] : List D)))))))) (retS (cst (D.bl false))) SRes.nx)
def m_law : DEnv → SRes := (sq (setOS 1 (callF F_law_deck (aV (varM 0) (aV (cst (D.int 60)) (aV (cst (D.int 14)) (cst ([] : List Arg))))))) (sq (setOS 2 (lcM [7] (range1M (callM F_law_take (aO 1 (aV (cst (D.int 5)) (cst ([] : List Arg)))))) (tgN 7) (cst true) (tupM (consM (callM F_law_numbers (aO 1 (aV (cst (D.int 6)) (cst ([] : List Arg))))) (consM (callM F_law_numbers (aO 1 (aV (cst (D.int 6)) (cst ([] : List Arg))))) (cst ([] : List D))))))) (sq (setS 3 (callM F_sums_of (aV (varM 2) (cst ([] : List Arg))))) (sq (ifS (orM (notM (truM (isiM "tuple" (varM 3)))) (orM (asB (opM gtG (call1 lenD (varR 3)) (cst (D.int 2)))) (notM (truM (callM F_law_form (aV (varM 3) (cst ([] : List Arg)))))))) (retS (cst (D.bl false))) SRes.nx) (sq (forS (seqA (varM 3)) (tgN 4) law_b1) (sq (forS (seqA (varM 2)) (tgN 5) law_b2) (sq (setOS 6 (lstM (cst ([] : List D)))) (sq (forS (range1M (cst (D.int 5))) (tgN 7) law_b4) (sq (forS (seqA (varM 6)) (tgN 8) law_b5) (sq (setS 13 (callM F_ring_for (aV (varM 2) (aV (varM 6) (cst ([] : List Arg)))))) (sq (ifS (orM (asB (opM neD (call1 lenD (varR 13)) (cst (D.int 3)))) (orM (asB (opM ltG (opV ixD 13 (cst (D.int 0))) (cst (D.int 1)))) (orM (asB (opM ltG (opV ixD 13 (cst (D.int 1))) (cst (D.int 1)))) (orM (asB (opM ltG (opV ixD 13 (cst (D.int 2))) (cst (D.int 0)))) (asB (opM geG (opV ixD 13 (cst (D.int 2))) (opV ixD 13 (cst (D.int 0))))))))) (retS (cst (D.bl false))) SRes.nx) (sq (forS (seqA (varM 2)) (tgN 5) law_b6) (sq (forS (seqA (varM 6)) (tgN 8) law_b7) (sq (setS 14 (sm1M joinD (cst (D.str "")) (lstE (lcM [7] (range1M (callM F_law_take (aO 1 (aV (cst (D.int 9)) (cst ([] : List Arg)))))) (tgN 7) (cst true) (opM ixD (cst (D.str "abAB")) (callM F_law_take (aO 1 (aV (cst (D.int 4)) (cst ([] : List Arg)))))))))) (retS (andV (opM eqD (callM F_pair_of (aV (varM 14) (cst ([] : List Arg)))) (callM F_law_pair (aV (varM 14) (cst ([] : List Arg))))) (opM eqD (callM F_law_refusal (aV (callM F_law_take (aO 1 (aV (cst (D.int 4)) (cst ([] : List Arg))))) (cst ([] : List Arg)))) (cst (D.str "pairs")))))))))))))))))))
def F_law : DEnv → FRes := bodyF 1 16 m_law
theorem sc_law : FnScope N_law P_law (defScope s_law) := ⟨rfl, rfl, rfl, by decide +kernel, rfl, by decide +kernel, by decide +kernel⟩
/-! ### what the top has written -/
structure Ad where
  f_is_whole_number : Addr
  f_check_pairs : Addr
  f_pair_of : Addr
  f_scaled : Addr
  f_less : Addr
  f_cleared : Addr
  f_form_of : Addr
  f_sums_of : Addr
  f_numbers_for : Addr
  f_common_of : Addr
  f_enough_for : Addr
  f_ring_of : Addr
  f_ring_for : Addr
  f_law_deck : Addr
  f_law_take : Addr
  f_law_pair : Addr
  f_law_in_sums : Addr
  f_law_shifted : Addr
  f_law_numbers : Addr
  f_law_refusal : Addr
  f_law_form : Addr
  f_law : Addr
  c_InvalidKind : Addr
  i_InvalidKind : Addr
  c_STEPS : Addr
def lx (K : PySem.W.Frag) (ad : Ad) : Lx := ⟨K, fun n => [(("InvalidKind" : Str), ad.c_InvalidKind)].lookup n, none⟩
structure Tx (P : Program) (w : World) (K : PySem.W.Frag) (mg : Str → Option Value) (ad : Ad) : Prop where
  z_abs : mg "abs" = none
  z_bool : mg "bool" = none
  z_enumerate : mg "enumerate" = none
  z_int : mg "int" = none
  z_isinstance : mg "isinstance" = none
  z_len : mg "len" = none
  z_list : mg "list" = none
  z_max : mg "max" = none
  z_min : mg "min" = none
  z_range : mg "range" = none
  z_sum : mg "sum" = none
  z_tuple : mg "tuple" = none
  z_zip : mg "zip" = none
  g_is_whole_number : mg "is_whole_number" = some (.ref ad.f_is_whole_number)
  d_is_whole_number : Dn K "is_whole_number" s_is_whole_number ad.f_is_whole_number P_is_whole_number
  g_check_pairs : mg "check_pairs" = some (.ref ad.f_check_pairs)
  d_check_pairs : Dn K "check_pairs" s_check_pairs ad.f_check_pairs P_check_pairs
  g_pair_of : mg "pair_of" = some (.ref ad.f_pair_of)
  d_pair_of : Dn K "pair_of" s_pair_of ad.f_pair_of P_pair_of
  g_scaled : mg "scaled" = some (.ref ad.f_scaled)
  d_scaled : Dn K "scaled" s_scaled ad.f_scaled P_scaled
  g_less : mg "less" = some (.ref ad.f_less)
  d_less : Dn K "less" s_less ad.f_less P_less
  g_cleared : mg "cleared" = some (.ref ad.f_cleared)
  d_cleared : Dn K "cleared" s_cleared ad.f_cleared P_cleared
  g_form_of : mg "form_of" = some (.ref ad.f_form_of)
  d_form_of : Dn K "form_of" s_form_of ad.f_form_of P_form_of
  g_sums_of : mg "sums_of" = some (.ref ad.f_sums_of)
  d_sums_of : Dn K "sums_of" s_sums_of ad.f_sums_of P_sums_of
  g_numbers_for : mg "numbers_for" = some (.ref ad.f_numbers_for)
  d_numbers_for : Dn K "numbers_for" s_numbers_for ad.f_numbers_for P_numbers_for
  g_common_of : mg "common_of" = some (.ref ad.f_common_of)
  d_common_of : Dn K "common_of" s_common_of ad.f_common_of P_common_of
  g_enough_for : mg "enough_for" = some (.ref ad.f_enough_for)
  d_enough_for : Dn K "enough_for" s_enough_for ad.f_enough_for P_enough_for
  g_ring_of : mg "ring_of" = some (.ref ad.f_ring_of)
  d_ring_of : Dn K "ring_of" s_ring_of ad.f_ring_of P_ring_of
  g_ring_for : mg "ring_for" = some (.ref ad.f_ring_for)
  d_ring_for : Dn K "ring_for" s_ring_for ad.f_ring_for P_ring_for
  g_law_deck : mg "_law_deck" = some (.ref ad.f_law_deck)
  d_law_deck : Dn K "_law_deck" s_law_deck ad.f_law_deck P_law_deck
  g_law_take : mg "_law_take" = some (.ref ad.f_law_take)
  d_law_take : Dn K "_law_take" s_law_take ad.f_law_take P_law_take
  g_law_pair : mg "_law_pair" = some (.ref ad.f_law_pair)
  d_law_pair : Dn K "_law_pair" s_law_pair ad.f_law_pair P_law_pair
  g_law_in_sums : mg "_law_in_sums" = some (.ref ad.f_law_in_sums)
  d_law_in_sums : Dn K "_law_in_sums" s_law_in_sums ad.f_law_in_sums P_law_in_sums
  g_law_shifted : mg "_law_shifted" = some (.ref ad.f_law_shifted)
  d_law_shifted : Dn K "_law_shifted" s_law_shifted ad.f_law_shifted P_law_shifted
  g_law_numbers : mg "_law_numbers" = some (.ref ad.f_law_numbers)
  d_law_numbers : Dn K "_law_numbers" s_law_numbers ad.f_law_numbers P_law_numbers
  g_law_refusal : mg "_law_refusal" = some (.ref ad.f_law_refusal)
  d_law_refusal : Dn K "_law_refusal" s_law_refusal ad.f_law_refusal P_law_refusal
  g_law_form : mg "_law_form" = some (.ref ad.f_law_form)
  d_law_form : Dn K "_law_form" s_law_form ad.f_law_form P_law_form
  g_law : mg "law" = some (.ref ad.f_law)
  d_law : Dn K "law" s_law ad.f_law P_law
  x_InvalidKind : XTxt P K mg "InvalidKind" ad.c_InvalidKind ad.i_InvalidKind
  e_InvalidKind : PySem.W.exmOne K (.ref ad.c_InvalidKind) (.ref ad.c_InvalidKind) = some true
  t_STEPS : DcS K w mg "STEPS" ad.c_STEPS d_STEPS
section
variable {P : Program} {w : World} {K : PySem.W.Frag} {mg : Str → Option Value} {base : Heap} {ad : Ad}
theorem hm_InvalidKind (T : Tx P w K mg ad) : ∀ m b, h_InvalidKind m = some b → ∀ C, (lx K ad).ct m = some C → PySem.W.exmOne K (.ref C) (.ref ad.c_InvalidKind) = some b := by
  intro m b h C hc
  unfold h_InvalidKind at h
  split at h
  · rename_i e; subst e; cases h; cases hc; exact T.e_InvalidKind
  · cases h
theorem Tx.good (T : Tx P w K mg ad) : ∀ m C, (lx K ad).ct m = some C → XfC K C ∧ PySem.W.findIn K (.ref C) "what" = some none := by
  intro m C h
  unfold lx at h; simp only [List.lookup] at h
  repeat (split at h)
  · cases h; exact ⟨⟨T.x_InvalidKind.ga, T.x_InvalidKind.gg, T.x_InvalidKind.exC, T.x_InvalidKind.hdC⟩, T.x_InvalidKind.noN⟩
  · cases h
theorem ok_is_whole_number (T : Tx P w K mg ad) : Cal P w K mg base (lx K ad) ad.f_is_whole_number 1 P_is_whole_number F_is_whole_number :=
  cal_body (k := 0) T.d_is_whole_number sc_is_whole_number fun cdv ar outer s H E hr tk => (by exact ss_one (by exact s_ret (by exact d_and (by exact d_isi (T := "int") rfl T.z_isinstance (by first | rfl | kernel_rfl) (by decide) (by decide) rfl T.z_int (by first | rfl | kernel_rfl) (by decide) (by decide) (by exact de_var (i := 0) rfl (Or.inl rfl) (by decide) (by decide))) (by exact d_one (by exact d_not (by exact d_isi (T := "bool") rfl T.z_isinstance (by first | rfl | kernel_rfl) (by decide) (by decide) rfl T.z_bool (by first | rfl | kernel_rfl) (by decide) (by decide) (by exact de_var (i := 0) rfl (Or.inl rfl) (by decide) (by decide))))))))
theorem ok_pair_of (T : Tx P w K mg ad) : Cal P w K mg base (lx K ad) ad.f_pair_of 1 P_pair_of F_pair_of :=
  cal_body (k := 0) T.d_pair_of sc_pair_of fun cdv ar outer s H E hr tk => (by exact ss_cons (by exact s_setF sc_pair_of.nd (i := 1) rfl (Or.inl rfl) (by exact f_lst (by exact a_cons de_int (by exact a_cons de_int a_nil)))) (by exact ss_cons (by exact s_for (passes_of rfl) (by exact i_any (by exact de_var (i := 0) rfl (Or.inl rfl) (by decide) (by decide))) (by exact g_name sc_pair_of.nd (i := 2) rfl (Or.inl rfl)) (m := pair_of_b1) (by exact ss_cons (by exact s_augPut iop_addA ops_iadd (i := 1) rfl (Or.inl rfl) (by decide) (by decide) de_int (by exact d_ix (fun _ _ => rfl) (by exact d_dcIx T.t_STEPS rfl (by decide) (fun _ _ => rfl) (by exact dr_var (i := 2) rfl (Or.inl rfl) (by decide) (by decide))) (by exact DE.r de_int))) (by exact ss_one (by exact s_augPut iop_addA ops_iadd (i := 1) rfl (Or.inl rfl) (by decide) (by decide) de_int (by exact d_ix (fun _ _ => rfl) (by exact d_dcIx T.t_STEPS rfl (by decide) (fun _ _ => rfl) (by exact dr_var (i := 2) rfl (Or.inl rfl) (by decide) (by decide))) (by exact DE.r de_int)))))) (by exact ss_one (by exact s_ret (by exact d_callT1 call_tuple_of calls_tup rfl T.z_tuple (by first | rfl | kernel_rfl) (by decide) (by decide) (by exact dr_var (i := 1) rfl (Or.inl rfl) (by decide) (by decide)))))))
theorem ok_scaled (T : Tx P w K mg ad) : Cal P w K mg base (lx K ad) ad.f_scaled 1 P_scaled F_scaled :=
  cal_body (k := 0) T.d_scaled sc_scaled fun cdv ar outer s H E hr tk => (by exact ss_one (by exact s_retF (by exact f_lc sc_scaled.nd (by exact i_any (by exact de_var (i := 0) rfl (Or.inl rfl) (by decide) (by decide))) (own := [("one", 2)]) (by exact (show BlkOk N_scaled (defScope s_scaled) _ [("one", 2)] from ⟨rfl, by decide +kernel, by decide +kernel, by decide +kernel, by decide +kernel⟩)) (by exact b_name sc_scaled.nd (i := 2) rfl (fun _ _ _ _ _ => by first | exact Or.inl rfl | exact Or.inr rfl) (fun _ _ _ _ _ => by first | exact Or.inl rfl | exact Or.inr rfl) (by decide)) (fun _ _ _ _ _ => ts_nil) (fun _ _ _ _ _ => (by exact d_binV op_mulG ops_mulG (i := 2) rfl (Or.inl rfl) (by decide) (by decide) (by exact dr_var (i := 1) rfl (by first | exact Or.inr (Or.inr rfl) | exact Or.inr (Or.inl rfl) | exact Or.inl rfl) (by decide) (by decide)))))))
theorem ok_less (T : Tx P w K mg ad) : Cal P w K mg base (lx K ad) ad.f_less 1 P_less F_less :=
  cal_body (k := 0) T.d_less sc_less fun cdv ar outer s H E hr tk => (by exact ss_one (by exact s_retF (by exact f_lc sc_less.nd (by exact i_zip rfl T.z_zip (by exact de_var (i := 0) rfl (Or.inl rfl) (by decide) (by decide)) (by exact de_var (i := 1) rfl (Or.inl rfl) (by decide) (by decide))) (own := [("one", 2), ("two", 3)]) (by exact (show BlkOk N_less (defScope s_less) _ [("one", 2), ("two", 3)] from ⟨rfl, by decide +kernel, by decide +kernel, by decide +kernel, by decide +kernel⟩)) (by exact b_tup (by exact bs_cons (by exact b_name sc_less.nd (i := 2) rfl (fun _ _ _ _ _ => by first | exact Or.inl rfl | exact Or.inr rfl) (fun _ _ _ _ _ => by first | exact Or.inl rfl | exact Or.inr rfl) (by decide)) (by exact bs_cons (by exact b_name sc_less.nd (i := 3) rfl (fun _ _ _ _ _ => by first | exact Or.inl rfl | exact Or.inr rfl) (fun _ _ _ _ _ => by first | exact Or.inl rfl | exact Or.inr rfl) (by decide)) bs_nil))) (fun _ _ _ _ _ => ts_nil) (fun _ _ _ _ _ => (by exact d_binV op_sub ops_sub (i := 2) rfl (Or.inl rfl) (by decide) (by decide) (by exact dr_var (i := 3) rfl (Or.inl rfl) (by decide) (by decide)))))))
theorem ok_common_of (T : Tx P w K mg ad) : Cal P w K mg base (lx K ad) ad.f_common_of 1 P_common_of F_common_of :=
  cal_body (k := 0) T.d_common_of sc_common_of fun cdv ar outer s H E hr tk => (by exact ss_cons (by exact s_while (passes_of rfl) (mt := common_of_c1) (m := common_of_b2) (by exact t_truth (by exact dr_var (i := 1) rfl (Or.inl rfl) (by decide) (by decide)) (fun _ => rfl)) (by exact ss_one (by exact s_par2 sc_common_of.nd (i := 0) (j := 1) rfl rfl (by decide) rfl rfl (by exact a_cons (by exact de_var (i := 1) rfl (Or.inl rfl) (by decide) (by decide)) (by exact a_cons (by exact d_binV op_modN ops_modG (i := 0) rfl (Or.inl rfl) (by decide) (by decide) (by exact dr_var (i := 1) rfl (Or.inl rfl) (by decide) (by decide))) a_nil))))) (by exact ss_one (by exact s_ret (by exact d_callB1 call_abs calls_abs rfl T.z_abs (by first | rfl | kernel_rfl) (by decide) (by decide) (by exact dr_var (i := 0) rfl (Or.inl rfl) (by decide) (by decide))))))
theorem ok_ring_of (T : Tx P w K mg ad) : Cal P w K mg base (lx K ad) ad.f_ring_of 1 P_ring_of F_ring_of :=
  cal_body (k := 0) T.d_ring_of sc_ring_of fun cdv ar outer s H E hr tk => (by exact ss_cons (by exact s_asg (by exact de_var (i := 0) rfl (Or.inl rfl) (by decide) (by decide)) (by exact g_tup (by exact gs_cons (by exact g_tup (by exact gs_cons (by exact g_name sc_ring_of.nd (i := 1) rfl (Or.inl rfl)) (by exact gs_cons (by exact g_name sc_ring_of.nd (i := 2) rfl (Or.inl rfl)) gs_nil))) (by exact gs_cons (by exact g_tup (by exact gs_cons (by exact g_name sc_ring_of.nd (i := 3) rfl (Or.inl rfl)) (by exact gs_cons (by exact g_name sc_ring_of.nd (i := 4) rfl (Or.inl rfl)) gs_nil))) gs_nil)))) (by exact ss_one (by exact s_ret (by exact d_tup (by exact a_cons (by exact de_var (i := 1) rfl (Or.inl rfl) (by decide) (by decide)) (by exact a_cons (by exact de_var (i := 4) rfl (Or.inl rfl) (by decide) (by decide)) (by exact a_cons (by exact d_bin op_modN ops_modG (by exact d_neg (by exact de_var (i := 3) rfl (Or.inl rfl) (by decide) (by decide))) (by exact dr_var (i := 1) rfl (Or.inl rfl) (by decide) (by decide))) a_nil)))))))
theorem ok_law_deck (T : Tx P w K mg ad) : Cal P w K mg base (lx K ad) ad.f_law_deck 1 P_law_deck F_law_deck :=
  cal_body (k := 0) T.d_law_deck sc_law_deck fun cdv ar outer s H E hr tk => (by exact ss_cons (by exact s_setF sc_law_deck.nd (i := 3) rfl (Or.inl rfl) (by exact f_lst a_nil)) (by exact ss_cons (by exact s_set sc_law_deck.nd (i := 4) rfl (Or.inl rfl) (by exact d_bin op_addA ops_add de_int (by exact DE.r (by exact d_callB1 call_len calls_len rfl T.z_len (by first | rfl | kernel_rfl) (by decide) (by decide) (by exact dr_var (i := 0) rfl (Or.inl rfl) (by decide) (by decide)))))) (by exact ss_cons (by exact s_for (passes_of rfl) (by exact i_range1 rfl T.z_range (by exact de_var (i := 1) rfl (Or.inl rfl) (by decide) (by decide))) (by exact g_name sc_law_deck.nd (i := 5) rfl (Or.inl rfl)) (m := law_deck_b3) (by exact ss_cons (by exact s_set sc_law_deck.nd (i := 6) rfl (Or.inl rfl) de_int) (by exact ss_cons (by exact s_if (by exact t_cmpV (op_ltG (hu64 hr)) ops_ordG rfl (i := 5) rfl (Or.inl rfl) (by decide) (by decide) (by exact DE.r (by exact d_callB1 call_len calls_len rfl T.z_len (by first | rfl | kernel_rfl) (by decide) (by decide) (by exact dr_var (i := 0) rfl (Or.inl rfl) (by decide) (by decide))))) (by exact ss_one (by exact s_set sc_law_deck.nd (i := 6) rfl (Or.inl rfl) (by exact d_ixV (fun _ _ => rfl) (i := 0) rfl (Or.inl rfl) (by decide) (by decide) (by exact dr_var (i := 5) rfl (Or.inl rfl) (by decide) (by decide))))) ss_nil) (by exact ss_cons (by exact s_set sc_law_deck.nd (i := 7) rfl (Or.inl rfl) (by exact d_callB1 call_abs calls_abs rfl T.z_abs (by first | rfl | kernel_rfl) (by decide) (by decide) (by exact dr_var (i := 6) rfl (Or.inl rfl) (by decide) (by decide)))) (by exact ss_one (by exact s_if (by exact t_cmpV (op_geG (hu64 hr)) ops_ordG rfl (i := 7) rfl (Or.inl rfl) (by decide) (by decide) (by exact DE.r (by exact d_bin op_pow ops_pow de_int (by exact DE.r de_int)))) (by exact ss_one (by exact s_for (passes_of rfl) (by exact i_range1 rfl T.z_range (by exact de_var (i := 2) rfl (Or.inl rfl) (by decide) (by decide))) (by exact g_name sc_law_deck.nd (i := 8) rfl (Or.inl rfl)) (m := law_deck_b1) (by exact ss_cons (by exact s_expr (by exact d_append rfl (i := 3) rfl (Or.inl rfl) (by decide) (by decide) (by exact d_bin op_mod ops_mod (by exact d_callT1 call_int1 calls_int rfl T.z_int (by first | rfl | kernel_rfl) (by decide) (by decide) (by exact dr_var (i := 7) rfl (Or.inl rfl) (by decide) (by decide))) (by exact DE.r de_int)))) (by exact ss_one (by exact s_set sc_law_deck.nd (i := 7) rfl (Or.inl rfl) (by exact d_binV op_fdiv ops_div (i := 7) rfl (Or.inl rfl) (by decide) (by decide) (by exact DE.r de_int))))))) (by exact ss_cons (by exact s_set sc_law_deck.nd (i := 4) rfl (Or.inl rfl) (by exact d_bin op_mod ops_mod (by exact d_callT1 call_int1 calls_int rfl T.z_int (by first | rfl | kernel_rfl) (by decide) (by decide) (by exact DE.r (by exact d_bin op_addA ops_add (by exact d_bin op_addA ops_add (by exact d_bin op_addA ops_add (by exact d_binV op_mul ops_mul (i := 4) rfl (Or.inl rfl) (by decide) (by decide) (by exact DE.r de_int)) (by exact DE.r (by exact d_bin op_mul ops_mul de_int (by exact dr_var (i := 7) rfl (Or.inl rfl) (by decide) (by decide))))) (by exact DE.r (by exact d_callT1 call_int1 calls_int rfl T.z_int (by first | rfl | kernel_rfl) (by decide) (by decide) (by exact DE.r (by exact d_cmpV (op_ltG (hu64 hr)) ops_ordG rfl (i := 6) rfl (Or.inl rfl) (by decide) (by decide) (by exact DE.r de_int)))))) (by exact dr_var (i := 5) rfl (Or.inl rfl) (by decide) (by decide))))) (by exact DE.r de_int))) (by exact ss_one (by exact s_for (passes_of rfl) (by exact i_range1 rfl T.z_range (by exact de_var (i := 2) rfl (Or.inl rfl) (by decide) (by decide))) (by exact g_name sc_law_deck.nd (i := 8) rfl (Or.inl rfl)) (m := law_deck_b2) (by exact ss_cons (by exact s_set sc_law_deck.nd (i := 4) rfl (Or.inl rfl) (by exact d_bin op_mod ops_mod (by exact d_callT1 call_int1 calls_int rfl T.z_int (by first | rfl | kernel_rfl) (by decide) (by decide) (by exact DE.r (by exact d_bin op_addA ops_add (by exact d_bin op_addA ops_add (by exact d_binV op_mul ops_mul (i := 4) rfl (Or.inl rfl) (by decide) (by decide) (by exact DE.r de_int)) (by exact dr_var (i := 8) rfl (Or.inl rfl) (by decide) (by decide))) (by exact DE.r de_int)))) (by exact DE.r de_int))) (by exact ss_one (by exact s_expr (by exact d_append rfl (i := 3) rfl (Or.inl rfl) (by decide) (by decide) (by exact d_bin op_mod ops_mod (by exact d_callT1 call_int1 calls_int rfl T.z_int (by first | rfl | kernel_rfl) (by decide) (by decide) (by exact DE.r (by exact d_binV op_fdiv ops_div (i := 4) rfl (Or.inl rfl) (by decide) (by decide) (by exact DE.r de_int)))) (by exact DE.r de_int))))))))))))))) (by exact ss_cons (by exact s_expr (by exact d_reverse rfl (i := 3) rfl (Or.inl rfl) (by decide) (by decide))) (by exact ss_one (by exact s_retO (i := 3) rfl (Or.inl rfl) (by decide) (by decide)))))))
theorem ok_law_take (T : Tx P w K mg ad) : Cal P w K mg base (lx K ad) ad.f_law_take 1 P_law_take F_law_take :=
  cal_body (k := 0) T.d_law_take sc_law_take fun cdv ar outer s H E hr tk => (by exact ss_cons (by exact s_if (by exact t_cmp (op_eqA (hu64 hr)) ops_eq rfl (by exact d_callB1 call_len calls_len rfl T.z_len (by first | rfl | kernel_rfl) (by decide) (by decide) (by exact dr_var (i := 0) rfl (Or.inl rfl) (by decide) (by decide))) (by exact DE.r de_int)) (by exact ss_one (by exact s_ret de_int)) ss_nil) (by exact ss_one (by exact s_ret (by exact d_bin op_mod ops_mod (by exact d_callT1 call_int1 calls_int rfl T.z_int (by first | rfl | kernel_rfl) (by decide) (by decide) (by exact DE.r (by exact d_pop rfl (i := 0) rfl (Or.inl rfl) (by decide) (by decide)))) (by exact dr_var (i := 1) rfl (Or.inl rfl) (by decide) (by decide))))))
theorem ok_law_pair (T : Tx P w K mg ad) : Cal P w K mg base (lx K ad) ad.f_law_pair 1 P_law_pair F_law_pair :=
  cal_body (k := 0) T.d_law_pair sc_law_pair fun cdv ar outer s H E hr tk => (by exact ss_one (by exact s_ret (by exact d_tup (by exact a_cons (by exact d_bin op_sub ops_sub (by exact d_sm1 PySem.F.slot_str_count PySem.F.type_str_count mt_count sm_count (by exact de_var (i := 0) rfl (Or.inl rfl) (by decide) (by decide)) (by exact DE.r de_str)) (by exact DE.r (by exact d_sm1 PySem.F.slot_str_count PySem.F.type_str_count mt_count sm_count (by exact de_var (i := 0) rfl (Or.inl rfl) (by decide) (by decide)) (by exact DE.r de_str)))) (by exact a_cons (by exact d_bin op_sub ops_sub (by exact d_sm1 PySem.F.slot_str_count PySem.F.type_str_count mt_count sm_count (by exact de_var (i := 0) rfl (Or.inl rfl) (by decide) (by decide)) (by exact DE.r de_str)) (by exact DE.r (by exact d_sm1 PySem.F.slot_str_count PySem.F.type_str_count mt_count sm_count (by exact de_var (i := 0) rfl (Or.inl rfl) (by decide) (by decide)) (by exact DE.r de_str)))) a_nil)))))
theorem ok_law_in_sums (T : Tx P w K mg ad) : Cal P w K mg base (lx K ad) ad.f_law_in_sums 1 P_law_in_sums F_law_in_sums :=
  cal_body (k := 0) T.d_law_in_sums sc_law_in_sums fun cdv ar outer s H E hr tk => (by exact ss_cons (by exact s_setLc (i := 2) sc_law_in_sums.nd rfl rfl (by rfl) (by exact i_any (by exact de_var (i := 0) rfl (Or.inl rfl) (by decide) (by decide))) (own := [("pair", 13)]) (by exact (show BlkOk N_law_in_sums (defScope s_law_in_sums) _ [("pair", 13)] from ⟨rfl, by decide +kernel, by decide +kernel, by decide +kernel, by decide +kernel⟩)) (by exact b_name sc_law_in_sums.nd (i := 13) rfl (fun _ _ _ _ _ => by first | exact Or.inl rfl | exact Or.inr rfl) (fun _ _ _ _ _ => by first | exact Or.inl rfl | exact Or.inr rfl) (by decide)) (fun _ _ _ _ _ => ts_nil) (fun _ _ _ _ _ => (by exact DF.e (by exact f_list rfl rfl T.z_list (by first | rfl | kernel_rfl) (by decide) (by decide) (by exact dr_var (i := 13) rfl (Or.inl rfl) (by decide) (by decide)))))) (by exact ss_cons (by exact s_while (passes_of rfl) (mt := law_in_sums_c2) (m := law_in_sums_b3) (by exact t_cmp (op_gtG (hu64 hr)) ops_ordG rfl (by exact d_callB1 call_len calls_len rfl T.z_len (by first | rfl | kernel_rfl) (by decide) (by decide) (by exact DE.r (by exact DF.e (by exact f_lc sc_law_in_sums.nd (by exact i_any (by exact de_var (i := 2) rfl (Or.inl rfl) (by decide) (by decide))) (own := [("row", 7)]) (by exact (show BlkOk N_law_in_sums (defScope s_law_in_sums) _ [("row", 7)] from ⟨rfl, by decide +kernel, by decide +kernel, by decide +kernel, by decide +kernel⟩)) (by exact b_name sc_law_in_sums.nd (i := 7) rfl (fun _ _ _ _ _ => by first | exact Or.inl rfl | exact Or.inr rfl) (fun _ _ _ _ _ => by first | exact Or.inl rfl | exact Or.inr rfl) (by decide)) (fun _ _ _ _ _ => (by exact ts_one (by exact t_cmp (op_neA (hu64 hr)) ops_ne rfl (by exact d_ixV (fun _ _ => rfl) (i := 7) rfl (Or.inl rfl) (by decide) (by decide) (by exact DE.r de_int)) (by exact DE.r de_int)))) (fun _ _ _ _ _ => (by exact de_var (i := 7) rfl (Or.inl rfl) (by decide) (by decide))))))) (by exact DE.r de_int)) (by exact ss_cons (by exact s_set sc_law_in_sums.nd (i := 3) rfl (Or.inl rfl) (by exact d_ix (fun _ _ => rfl) (by exact d_callB1 (call_minB rfl (hu64 hr)) calls_min rfl T.z_min (by first | rfl | kernel_rfl) (by decide) (by decide) (by exact DE.r (by exact DF.e (by exact f_lc sc_law_in_sums.nd (by exact i_enum rfl T.z_enumerate (by exact de_var (i := 2) rfl (Or.inl rfl) (by decide) (by decide))) (own := [("at", 6), ("row", 7)]) (by exact (show BlkOk N_law_in_sums (defScope s_law_in_sums) _ [("at", 6), ("row", 7)] from ⟨rfl, by decide +kernel, by decide +kernel, by decide +kernel, by decide +kernel⟩)) (by exact b_tup (by exact bs_cons (by exact b_name sc_law_in_sums.nd (i := 6) rfl (fun _ _ _ _ _ => by first | exact Or.inl rfl | exact Or.inr rfl) (fun _ _ _ _ _ => by first | exact Or.inl rfl | exact Or.inr rfl) (by decide)) (by exact bs_cons (by exact b_name sc_law_in_sums.nd (i := 7) rfl (fun _ _ _ _ _ => by first | exact Or.inl rfl | exact Or.inr rfl) (fun _ _ _ _ _ => by first | exact Or.inl rfl | exact Or.inr rfl) (by decide)) bs_nil))) (fun _ _ _ _ _ => (by exact ts_one (by exact t_cmp (op_neA (hu64 hr)) ops_ne rfl (by exact d_ixV (fun _ _ => rfl) (i := 7) rfl (Or.inl rfl) (by decide) (by decide) (by exact DE.r de_int)) (by exact DE.r de_int)))) (fun _ _ _ _ _ => (by exact d_tup (by exact a_cons (by exact d_callB1 call_abs calls_abs rfl T.z_abs (by first | rfl | kernel_rfl) (by decide) (by decide) (by exact DE.r (by exact d_ixV (fun _ _ => rfl) (i := 7) rfl (Or.inl rfl) (by decide) (by decide) (by exact DE.r de_int)))) (by exact a_cons (by exact de_var (i := 6) rfl (Or.inl rfl) (by decide) (by decide)) a_nil)))))))) (by exact DE.r de_int))) (by exact ss_cons (by exact s_set sc_law_in_sums.nd (i := 4) rfl (Or.inl rfl) (by exact d_ixV (fun _ _ => rfl) (i := 2) rfl (Or.inl rfl) (by decide) (by decide) (by exact dr_var (i := 3) rfl (Or.inl rfl) (by decide) (by decide)))) (by exact ss_cons (by exact s_setF sc_law_in_sums.nd (i := 5) rfl (Or.inl rfl) (by exact f_lst a_nil)) (by exact ss_cons (by exact s_for (passes_of rfl) (by exact i_enum rfl T.z_enumerate (by exact de_var (i := 2) rfl (Or.inl rfl) (by decide) (by decide))) (by exact g_tup (by exact gs_cons (by exact g_name sc_law_in_sums.nd (i := 6) rfl (Or.inl rfl)) (by exact gs_cons (by exact g_name sc_law_in_sums.nd (i := 7) rfl (Or.inl rfl)) gs_nil))) (m := law_in_sums_b1) (by exact ss_cons (by exact s_set sc_law_in_sums.nd (i := 8) rfl (Or.inl rfl) (by exact d_bin op_fdivG ops_divG (by exact d_ixV (fun _ _ => rfl) (i := 7) rfl (Or.inl rfl) (by decide) (by decide) (by exact DE.r de_int)) (by exact DE.r (by exact d_ixV (fun _ _ => rfl) (i := 4) rfl (Or.inl rfl) (by decide) (by decide) (by exact DE.r de_int))))) (by exact ss_one (by exact s_if (by exact t_cmpV (op_neA (hu64 hr)) ops_ne rfl (i := 6) rfl (Or.inl rfl) (by decide) (by decide) (by exact dr_var (i := 3) rfl (Or.inl rfl) (by decide) (by decide))) (by exact ss_one (by exact s_expr (by exact d_append rfl (i := 5) rfl (Or.inl rfl) (by decide) (by decide) (by exact DF.e (by exact f_lst (by exact a_cons (by exact d_bin op_sub ops_sub (by exact d_ixV (fun _ _ => rfl) (i := 7) rfl (Or.inl rfl) (by decide) (by decide) (by exact DE.r de_int)) (by exact DE.r (by exact d_binV op_mulG ops_mulG (i := 8) rfl (Or.inl rfl) (by decide) (by decide) (by exact DE.r (by exact d_ixV (fun _ _ => rfl) (i := 4) rfl (Or.inl rfl) (by decide) (by decide) (by exact DE.r de_int)))))) (by exact a_cons (by exact d_bin op_sub ops_sub (by exact d_ixV (fun _ _ => rfl) (i := 7) rfl (Or.inl rfl) (by decide) (by decide) (by exact DE.r de_int)) (by exact DE.r (by exact d_binV op_mulG ops_mulG (i := 8) rfl (Or.inl rfl) (by decide) (by decide) (by exact DE.r (by exact d_ixV (fun _ _ => rfl) (i := 4) rfl (Or.inl rfl) (by decide) (by decide) (by exact DE.r de_int)))))) a_nil))))))) ss_nil)))) (by exact ss_one (by exact s_setF sc_law_in_sums.nd (i := 2) rfl (Or.inl rfl) (by exact f_bin op_cat opf_cat (by exact DF.e (by exact f_lst (by exact a_cons (by exact de_var (i := 4) rfl (Or.inl rfl) (by decide) (by decide)) a_nil))) (by exact dr_var (i := 5) rfl (Or.inl rfl) (by decide) (by decide)))))))))) (by exact ss_cons (by exact s_setF sc_law_in_sums.nd (i := 9) rfl (Or.inl rfl) (by exact f_list rfl rfl T.z_list (by first | rfl | kernel_rfl) (by decide) (by decide) (by exact dr_var (i := 1) rfl (Or.inl rfl) (by decide) (by decide)))) (by exact ss_cons (by exact s_for (passes_of rfl) (by exact i_any (by exact de_var (i := 2) rfl (Or.inl rfl) (by decide) (by decide))) (by exact g_name sc_law_in_sums.nd (i := 7) rfl (Or.inl rfl)) (m := law_in_sums_b4) (by exact ss_one (by exact s_if (by exact t_cmp (op_neA (hu64 hr)) ops_ne rfl (by exact d_ixV (fun _ _ => rfl) (i := 7) rfl (Or.inl rfl) (by decide) (by decide) (by exact DE.r de_int)) (by exact DE.r de_int)) (by exact ss_cons (by exact s_if (by exact t_cmp (op_neA (hu64 hr)) ops_ne rfl (by exact d_bin op_modN ops_modG (by exact d_ixV (fun _ _ => rfl) (i := 9) rfl (Or.inl rfl) (by decide) (by decide) (by exact DE.r de_int)) (by exact DE.r (by exact d_ixV (fun _ _ => rfl) (i := 7) rfl (Or.inl rfl) (by decide) (by decide) (by exact DE.r de_int)))) (by exact DE.r de_int)) (by exact ss_one (by exact s_ret de_bl)) ss_nil) (by exact ss_cons (by exact s_set sc_law_in_sums.nd (i := 8) rfl (Or.inl rfl) (by exact d_bin op_fdivG ops_divG (by exact d_ixV (fun _ _ => rfl) (i := 9) rfl (Or.inl rfl) (by decide) (by decide) (by exact DE.r de_int)) (by exact DE.r (by exact d_ixV (fun _ _ => rfl) (i := 7) rfl (Or.inl rfl) (by decide) (by decide) (by exact DE.r de_int))))) (by exact ss_one (by exact s_setF sc_law_in_sums.nd (i := 9) rfl (Or.inl rfl) (by exact f_lst (by exact a_cons (by exact d_bin op_sub ops_sub (by exact d_ixV (fun _ _ => rfl) (i := 9) rfl (Or.inl rfl) (by decide) (by decide) (by exact DE.r de_int)) (by exact DE.r (by exact d_binV op_mulG ops_mulG (i := 8) rfl (Or.inl rfl) (by decide) (by decide) (by exact DE.r (by exact d_ixV (fun _ _ => rfl) (i := 7) rfl (Or.inl rfl) (by decide) (by decide) (by exact DE.r de_int)))))) (by exact a_cons de_int a_nil))))))) ss_nil))) (by exact ss_cons (by exact s_if (by exact t_cmp (op_neA (hu64 hr)) ops_ne rfl (by exact d_ixV (fun _ _ => rfl) (i := 9) rfl (Or.inl rfl) (by decide) (by decide) (by exact DE.r de_int)) (by exact DE.r de_int)) (by exact ss_one (by exact s_ret de_bl)) ss_nil) (by exact ss_cons (by exact s_set sc_law_in_sums.nd (i := 10) rfl (Or.inl rfl) de_int) (by exact ss_cons (by exact s_for (passes_of rfl) (by exact i_any (by exact de_var (i := 2) rfl (Or.inl rfl) (by decide) (by decide))) (by exact g_name sc_law_in_sums.nd (i := 7) rfl (Or.inl rfl)) (m := law_in_sums_b7) (by exact ss_one (by exact s_if (by exact t_cmp (op_eqA (hu64 hr)) ops_eq rfl (by exact d_ixV (fun _ _ => rfl) (i := 7) rfl (Or.inl rfl) (by decide) (by decide) (by exact DE.r de_int)) (by exact DE.r de_int)) (by exact ss_cons (by exact s_par2 sc_law_in_sums.nd (i := 11) (j := 12) rfl rfl (by decide) rfl rfl (by exact a_cons (by exact de_var (i := 10) rfl (Or.inl rfl) (by decide) (by decide)) (by exact a_cons (by exact d_callB1 call_abs calls_abs rfl T.z_abs (by first | rfl | kernel_rfl) (by decide) (by decide) (by exact DE.r (by exact d_ixV (fun _ _ => rfl) (i := 7) rfl (Or.inl rfl) (by decide) (by decide) (by exact DE.r de_int)))) a_nil))) (by exact ss_cons (by exact s_while (passes_of rfl) (mt := law_in_sums_c5) (m := law_in_sums_b6) (by exact t_cmpV (op_gtG (hu64 hr)) ops_ordG rfl (i := 12) rfl (Or.inl rfl) (by decide) (by decide) (by exact DE.r de_int)) (by exact ss_one (by exact s_par2 sc_law_in_sums.nd (i := 11) (j := 12) rfl rfl (by decide) rfl rfl (by exact a_cons (by exact de_var (i := 12) rfl (Or.inl rfl) (by decide) (by decide)) (by exact a_cons (by exact d_binV op_modN ops_modG (i := 11) rfl (Or.inl rfl) (by decide) (by decide) (by exact dr_var (i := 12) rfl (Or.inl rfl) (by decide) (by decide))) a_nil))))) (by exact ss_one (by exact s_set sc_law_in_sums.nd (i := 10) rfl (Or.inl rfl) (by exact de_var (i := 11) rfl (Or.inl rfl) (by decide) (by decide)))))) ss_nil))) (by exact ss_one (by exact s_ret (by exact d_if (by exact t_cmpV (op_eqA (hu64 hr)) ops_eq rfl (i := 10) rfl (Or.inl rfl) (by decide) (by decide) (by exact DE.r de_int)) (by exact d_cmp (op_eqA (hu64 hr)) ops_eq rfl (by exact d_ixV (fun _ _ => rfl) (i := 9) rfl (Or.inl rfl) (by decide) (by decide) (by exact DE.r de_int)) (by exact DE.r de_int)) (by exact d_cmp (op_eqA (hu64 hr)) ops_eq rfl (by exact d_bin op_modN ops_modG (by exact d_ixV (fun _ _ => rfl) (i := 9) rfl (Or.inl rfl) (by decide) (by decide) (by exact DE.r de_int)) (by exact dr_var (i := 10) rfl (Or.inl rfl) (by decide) (by decide))) (by exact DE.r de_int))))))))))))
theorem ok_law_shifted (T : Tx P w K mg ad) : Cal P w K mg base (lx K ad) ad.f_law_shifted 1 P_law_shifted F_law_shifted :=
  cal_body (k := 0) T.d_law_shifted sc_law_shifted fun cdv ar outer s H E hr tk => (by exact ss_cons (by exact s_asg (by exact de_var (i := 0) rfl (Or.inl rfl) (by decide) (by decide)) (by exact g_tup (by exact gs_cons (by exact g_name sc_law_shifted.nd (i := 3) rfl (Or.inl rfl)) (by exact gs_cons (by exact g_name sc_law_shifted.nd (i := 4) rfl (Or.inl rfl)) (by exact gs_cons (by exact g_name sc_law_shifted.nd (i := 5) rfl (Or.inl rfl)) gs_nil))))) (by exact ss_cons (by exact s_set sc_law_shifted.nd (i := 6) rfl (Or.inl rfl) (by exact d_bin op_addA ops_add (by exact d_ixV (fun _ _ => rfl) (i := 1) rfl (Or.inl rfl) (by decide) (by decide) (by exact DE.r de_int)) (by exact DE.r (by exact d_ixV (fun _ _ => rfl) (i := 2) rfl (Or.inl rfl) (by decide) (by decide) (by exact DE.r de_int))))) (by exact ss_cons (by exact s_set sc_law_shifted.nd (i := 7) rfl (Or.inl rfl) (by exact d_binV op_fdivG ops_divG (i := 6) rfl (Or.inl rfl) (by decide) (by decide) (by exact dr_var (i := 4) rfl (Or.inl rfl) (by decide) (by decide)))) (by exact ss_one (by exact s_ret (by exact d_tup (by exact a_cons (by exact d_binV op_sub ops_sub (i := 6) rfl (Or.inl rfl) (by decide) (by decide) (by exact DE.r (by exact d_binV op_mulG ops_mulG (i := 7) rfl (Or.inl rfl) (by decide) (by decide) (by exact dr_var (i := 4) rfl (Or.inl rfl) (by decide) (by decide))))) (by exact a_cons (by exact d_bin op_modN ops_modG (by exact d_bin op_addA ops_add (by exact d_bin op_addA ops_add (by exact d_ixV (fun _ _ => rfl) (i := 1) rfl (Or.inl rfl) (by decide) (by decide) (by exact DE.r de_int)) (by exact DE.r (by exact d_ixV (fun _ _ => rfl) (i := 2) rfl (Or.inl rfl) (by decide) (by decide) (by exact DE.r de_int)))) (by exact DE.r (by exact d_binV op_mulG ops_mulG (i := 7) rfl (Or.inl rfl) (by decide) (by decide) (by exact dr_var (i := 5) rfl (Or.inl rfl) (by decide) (by decide))))) (by exact dr_var (i := 3) rfl (Or.inl rfl) (by decide) (by decide))) a_nil))))))))
theorem ok_law_form (T : Tx P w K mg ad) : Cal P w K mg base (lx K ad) ad.f_law_form 1 P_law_form F_law_form :=
  cal_body (k := 0) T.d_law_form sc_law_form fun cdv ar outer s H E hr tk => (by exact ss_cons (by exact s_if (by exact t_cmp (op_eqA (hu64 hr)) ops_eq rfl (by exact d_callB1 call_len calls_len rfl T.z_len (by first | rfl | kernel_rfl) (by decide) (by decide) (by exact dr_var (i := 0) rfl (Or.inl rfl) (by decide) (by decide))) (by exact DE.r de_int)) (by exact ss_one (by exact s_ret de_bl)) ss_nil) (by exact ss_cons (by exact s_if (by exact t_cmp (op_eqA (hu64 hr)) ops_eq rfl (by exact d_callB1 call_len calls_len rfl T.z_len (by first | rfl | kernel_rfl) (by decide) (by decide) (by exact dr_var (i := 0) rfl (Or.inl rfl) (by decide) (by decide))) (by exact DE.r de_int)) (by exact ss_one (by exact s_ret (by exact d_or (by exact d_cmp (op_gtG (hu64 hr)) ops_ordG rfl (by exact d_ix (fun _ _ => rfl) (by exact d_ixV (fun _ _ => rfl) (i := 0) rfl (Or.inl rfl) (by decide) (by decide) (by exact DE.r de_int)) (by exact DE.r de_int)) (by exact DE.r de_int)) (by exact d_one (by exact d_and (by exact d_cmp (op_eqA (hu64 hr)) ops_eq rfl (by exact d_ix (fun _ _ => rfl) (by exact d_ixV (fun _ _ => rfl) (i := 0) rfl (Or.inl rfl) (by decide) (by decide) (by exact DE.r de_int)) (by exact DE.r de_int)) (by exact DE.r de_int)) (by exact d_one (by exact d_cmp (op_gtG (hu64 hr)) ops_ordG rfl (by exact d_ix (fun _ _ => rfl) (by exact d_ixV (fun _ _ => rfl) (i := 0) rfl (Or.inl rfl) (by decide) (by decide) (by exact DE.r de_int)) (by exact DE.r de_int)) (by exact DE.r de_int)))))))) ss_nil) (by exact ss_cons (by exact s_asg (by exact de_var (i := 0) rfl (Or.inl rfl) (by decide) (by decide)) (by exact g_tup (by exact gs_cons (by exact g_name sc_law_form.nd (i := 1) rfl (Or.inl rfl)) (by exact gs_cons (by exact g_name sc_law_form.nd (i := 2) rfl (Or.inl rfl)) gs_nil)))) (by exact ss_one (by exact s_ret (by exact d_and (by exact d_cmp (op_gtG (hu64 hr)) ops_ordG rfl (by exact d_ixV (fun _ _ => rfl) (i := 1) rfl (Or.inl rfl) (by decide) (by decide) (by exact DE.r de_int)) (by exact DE.r de_int)) (by exact d_and (by exact d_cmp (op_eqA (hu64 hr)) ops_eq rfl (by exact d_ixV (fun _ _ => rfl) (i := 1) rfl (Or.inl rfl) (by decide) (by decide) (by exact DE.r de_int)) (by exact DE.r de_int)) (by exact d_and (by exact d_cmp (op_gtG (hu64 hr)) ops_ordG rfl (by exact d_ixV (fun _ _ => rfl) (i := 2) rfl (Or.inl rfl) (by decide) (by decide) (by exact DE.r de_int)) (by exact DE.r de_int)) (by exact d_one (by exact d_chain (op_leG (hu64 hr)) (op_ltG (hu64 hr)) ops_ordG ops_ordG de_int (by exact d_ixV (fun _ _ => rfl) (i := 2) rfl (Or.inl rfl) (by decide) (by decide) (by exact DE.r de_int)) (by exact d_ixV (fun _ _ => rfl) (i := 1) rfl (Or.inl rfl) (by decide) (by decide) (by exact DE.r de_int))))))))))))
theorem ok_check_pairs (T : Tx P w K mg ad) : Cal P w K mg base (lx K ad) ad.f_check_pairs 2 P_check_pairs F_check_pairs :=
  cal_body (k := 1) T.d_check_pairs sc_check_pairs fun cdv ar outer s H E hr tk => (by exact ss_cons (by exact s_if (by exact t_not (by exact t_truth (by exact DE.r (by exact d_isis (Ts := ["list", "tuple"]) rfl T.z_isinstance (by first | rfl | kernel_rfl) (by decide) (by decide) (by exact ty_cons rfl T.z_list (by first | rfl | kernel_rfl) (by decide) (by decide) (by exact ty_cons rfl T.z_tuple (by first | rfl | kernel_rfl) (by decide) (by decide) ty_nil)) (by decide) (by exact de_var (i := 0) rfl (Or.inl rfl) (by decide) (by decide)))) (fun _ => rfl))) (by exact ss_one (by exact s_raise rfl T.x_InvalidKind hr tk rfl de_str rfl (by decide))) ss_nil) (by exact ss_one (by exact s_for (passes_of rfl) (by exact i_any (by exact de_var (i := 0) rfl (Or.inl rfl) (by decide) (by decide))) (by exact g_name sc_check_pairs.nd (i := 1) rfl (Or.inl rfl)) (m := check_pairs_b1) (by exact ss_one (by exact s_if (by exact DW.t (by exact w_or (by exact t_not (by exact t_truth (by exact DE.r (by exact d_isis (Ts := ["list", "tuple"]) rfl T.z_isinstance (by first | rfl | kernel_rfl) (by decide) (by decide) (by exact ty_cons rfl T.z_list (by first | rfl | kernel_rfl) (by decide) (by decide) (by exact ty_cons rfl T.z_tuple (by first | rfl | kernel_rfl) (by decide) (by decide) ty_nil)) (by decide) (by exact de_var (i := 1) rfl (Or.inl rfl) (by decide) (by decide)))) (fun _ => rfl))) (by exact w_or (by exact t_cmp (op_neA (hu64 hr)) ops_ne rfl (by exact d_callB1 call_len calls_len rfl T.z_len (by first | rfl | kernel_rfl) (by decide) (by decide) (by exact dr_var (i := 1) rfl (Or.inl rfl) (by decide) (by decide))) (by exact DE.r de_int)) (by exact w_or1 (by exact t_truth (by exact DE.r (by exact DF.e (by exact f_lc sc_check_pairs.nd (by exact i_any (by exact de_var (i := 1) rfl (Or.inl rfl) (by decide) (by decide))) (own := [("one", 2)]) (by exact (show BlkOk N_check_pairs (defScope s_check_pairs) _ [("one", 2)] from ⟨rfl, by decide +kernel, by decide +kernel, by decide +kernel, by decide +kernel⟩)) (by exact b_name sc_check_pairs.nd (i := 2) rfl (fun _ _ _ _ _ => by first | exact Or.inl rfl | exact Or.inr rfl) (fun _ _ _ _ _ => by first | exact Or.inl rfl | exact Or.inr rfl) (by decide)) (fun _ _ _ _ _ => (by exact ts_one (by exact t_not (by exact t_truth (by exact DE.r (by exact d_callC (ok_is_whole_number T) hr (by decide) rfl T.g_is_whole_number takes0 (by exact c_val (by exact de_var (i := 2) rfl (Or.inl rfl) (by decide) (by decide)) c_nil rfl) rfl (by decide) rfl rfl)) (fun _ => rfl))))) (fun _ _ _ _ _ => (by exact de_var (i := 2) rfl (Or.inl rfl) (by decide) (by decide)))))) (fun _ => rfl)))))) (by exact ss_one (by exact s_raise rfl T.x_InvalidKind hr tk rfl de_str rfl (by decide))) ss_nil)))))
theorem ok_cleared (T : Tx P w K mg ad) : Cal P w K mg base (lx K ad) ad.f_cleared 2 P_cleared F_cleared :=
  cal_body (k := 1) T.d_cleared sc_cleared fun cdv ar outer s H E hr tk => (by exact ss_cons (by exact s_setLc (i := 0) sc_cleared.nd rfl rfl (by rfl) (by exact i_any (by exact de_var (i := 0) rfl (Or.inl rfl) (by decide) (by decide))) (own := [("row", 8)]) (by exact (show BlkOk N_cleared (defScope s_cleared) _ [("row", 8)] from ⟨rfl, by decide +kernel, by decide +kernel, by decide +kernel, by decide +kernel⟩)) (by exact b_name sc_cleared.nd (i := 8) rfl (fun _ _ _ _ _ => by first | exact Or.inl rfl | exact Or.inr rfl) (fun _ _ _ _ _ => by first | exact Or.inl rfl | exact Or.inr rfl) (by decide)) (fun _ _ _ _ _ => ts_nil) (fun _ _ _ _ _ => (by exact DF.e (by exact f_list rfl rfl T.z_list (by first | rfl | kernel_rfl) (by decide) (by decide) (by exact dr_var (i := 8) rfl (Or.inl rfl) (by decide) (by decide)))))) (by exact ss_cons (by exact s_while (passes_of rfl) (mt := cleared_c1) (m := cleared_b2) (by exact t_cmp (op_gtG (hu64 hr)) ops_ordG rfl (by exact d_callB1 call_len calls_len rfl T.z_len (by first | rfl | kernel_rfl) (by decide) (by decide) (by exact DE.r (by exact DF.e (by exact f_lc sc_cleared.nd (by exact i_any (by exact de_var (i := 0) rfl (Or.inl rfl) (by decide) (by decide))) (own := [("row", 8)]) (by exact (show BlkOk N_cleared (defScope s_cleared) _ [("row", 8)] from ⟨rfl, by decide +kernel, by decide +kernel, by decide +kernel, by decide +kernel⟩)) (by exact b_name sc_cleared.nd (i := 8) rfl (fun _ _ _ _ _ => by first | exact Or.inl rfl | exact Or.inr rfl) (fun _ _ _ _ _ => by first | exact Or.inl rfl | exact Or.inr rfl) (by decide)) (fun _ _ _ _ _ => (by exact ts_one (by exact t_truth (by exact DE.r (by exact d_ixV (fun _ _ => rfl) (i := 8) rfl (Or.inl rfl) (by decide) (by decide) (by exact dr_var (i := 1) rfl (by first | exact Or.inr (Or.inr rfl) | exact Or.inr (Or.inl rfl) | exact Or.inl rfl) (by decide) (by decide)))) (fun _ => rfl)))) (fun _ _ _ _ _ => (by exact de_var (i := 8) rfl (Or.inl rfl) (by decide) (by decide))))))) (by exact DE.r de_int)) (by exact ss_cons (by exact s_setLc (i := 2) sc_cleared.nd rfl rfl (by rfl) (by exact i_enum rfl T.z_enumerate (by exact de_var (i := 0) rfl (Or.inl rfl) (by decide) (by decide))) (own := [("at", 7), ("row", 8)]) (by exact (show BlkOk N_cleared (defScope s_cleared) _ [("at", 7), ("row", 8)] from ⟨rfl, by decide +kernel, by decide +kernel, by decide +kernel, by decide +kernel⟩)) (by exact b_tup (by exact bs_cons (by exact b_name sc_cleared.nd (i := 7) rfl (fun _ _ _ _ _ => by first | exact Or.inl rfl | exact Or.inr rfl) (fun _ _ _ _ _ => by first | exact Or.inl rfl | exact Or.inr rfl) (by decide)) (by exact bs_cons (by exact b_name sc_cleared.nd (i := 8) rfl (fun _ _ _ _ _ => by first | exact Or.inl rfl | exact Or.inr rfl) (fun _ _ _ _ _ => by first | exact Or.inl rfl | exact Or.inr rfl) (by decide)) bs_nil))) (fun _ _ _ _ _ => (by exact ts_one (by exact t_truth (by exact DE.r (by exact d_ixV (fun _ _ => rfl) (i := 8) rfl (Or.inl rfl) (by decide) (by decide) (by exact dr_var (i := 1) rfl (by first | exact Or.inr (Or.inr rfl) | exact Or.inr (Or.inl rfl) | exact Or.inl rfl) (by decide) (by decide)))) (fun _ => rfl)))) (fun _ _ _ _ _ => (by exact d_tup (by exact a_cons (by exact d_callB1 call_abs calls_abs rfl T.z_abs (by first | rfl | kernel_rfl) (by decide) (by decide) (by exact DE.r (by exact d_ixV (fun _ _ => rfl) (i := 8) rfl (Or.inl rfl) (by decide) (by decide) (by exact dr_var (i := 1) rfl (by first | exact Or.inr (Or.inr rfl) | exact Or.inr (Or.inl rfl) | exact Or.inl rfl) (by decide) (by decide))))) (by exact a_cons (by exact de_var (i := 7) rfl (Or.inl rfl) (by decide) (by decide)) a_nil))))) (by exact ss_cons (by exact s_set sc_cleared.nd (i := 3) rfl (Or.inr rfl) (by exact d_ix (fun _ _ => rfl) (by exact d_callB1 (call_minB rfl (hu64 hr)) calls_min rfl T.z_min (by first | rfl | kernel_rfl) (by decide) (by decide) (by exact dr_var (i := 2) rfl (Or.inl rfl) (by decide) (by decide))) (by exact DE.r de_int))) (by exact ss_cons (by exact s_set sc_cleared.nd (i := 4) rfl (Or.inr rfl) (by exact d_ixV (fun _ _ => rfl) (i := 0) rfl (Or.inl rfl) (by decide) (by decide) (by exact dr_var (i := 3) rfl (Or.inr (Or.inl rfl)) (by decide) (by decide)))) (by exact ss_cons (by exact s_setLc (i := 5) sc_cleared.nd rfl rfl (by rfl) (by exact i_enum rfl T.z_enumerate (by exact de_var (i := 0) rfl (Or.inl rfl) (by decide) (by decide))) (own := [("at", 7), ("row", 8)]) (by exact (show BlkOk N_cleared (defScope s_cleared) _ [("at", 7), ("row", 8)] from ⟨rfl, by decide +kernel, by decide +kernel, by decide +kernel, by decide +kernel⟩)) (by exact b_tup (by exact bs_cons (by exact b_name sc_cleared.nd (i := 7) rfl (fun _ _ _ _ _ => by first | exact Or.inl rfl | exact Or.inr rfl) (fun _ _ _ _ _ => by first | exact Or.inl rfl | exact Or.inr rfl) (by decide)) (by exact bs_cons (by exact b_name sc_cleared.nd (i := 8) rfl (fun _ _ _ _ _ => by first | exact Or.inl rfl | exact Or.inr rfl) (fun _ _ _ _ _ => by first | exact Or.inl rfl | exact Or.inr rfl) (by decide)) bs_nil))) (fun _ _ _ _ _ => (by exact ts_one (by exact t_cmpV (op_neA (hu64 hr)) ops_ne rfl (i := 7) rfl (Or.inl rfl) (by decide) (by decide) (by exact dr_var (i := 3) rfl (by first | exact Or.inr (Or.inr rfl) | exact Or.inr (Or.inl rfl) | exact Or.inl rfl) (by decide) (by decide))))) (fun _ _ _ _ _ => (by exact DF.e (by exact d_callCF (ok_less T) hr (by decide) rfl T.g_less takes0 (by exact c_val (by exact de_var (i := 8) rfl (Or.inl rfl) (by decide) (by decide)) (by exact c_val (by exact DF.e (by exact d_callCF (ok_scaled T) hr (by decide) rfl T.g_scaled takes0 (by exact c_val (by exact de_var (i := 4) rfl (by first | exact Or.inr (Or.inr rfl) | exact Or.inr (Or.inl rfl) | exact Or.inl rfl) (by decide) (by decide)) (by exact c_val (by exact d_bin op_fdivG ops_divG (by exact d_ixV (fun _ _ => rfl) (i := 8) rfl (Or.inl rfl) (by decide) (by decide) (by exact dr_var (i := 1) rfl (by first | exact Or.inr (Or.inr rfl) | exact Or.inr (Or.inl rfl) | exact Or.inl rfl) (by decide) (by decide))) (by exact DE.r (by exact d_ixV (fun _ _ => rfl) (i := 4) rfl (by first | exact Or.inr (Or.inr rfl) | exact Or.inr (Or.inl rfl) | exact Or.inl rfl) (by decide) (by decide) (by exact dr_var (i := 1) rfl (by first | exact Or.inr (Or.inr rfl) | exact Or.inr (Or.inl rfl) | exact Or.inl rfl) (by decide) (by decide))))) c_nil rfl) rfl) rfl (by decide) rfl rfl)) c_nil rfl) rfl) rfl (by decide) rfl rfl)))) (by exact ss_one (by exact s_setF sc_cleared.nd (i := 0) rfl (Or.inl rfl) (by exact f_binV op_cat opf_cat (i := 5) rfl (Or.inl rfl) (by decide) (by decide) (by exact DE.r (by exact DF.e (by exact f_lst (by exact a_cons (by exact de_var (i := 4) rfl (Or.inr (Or.inl rfl)) (by decide) (by decide)) a_nil)))))))))))) (by exact ss_cons (by exact s_setLc (i := 6) sc_cleared.nd rfl rfl (by rfl) (by exact i_any (by exact de_var (i := 0) rfl (Or.inl rfl) (by decide) (by decide))) (own := [("row", 8)]) (by exact (show BlkOk N_cleared (defScope s_cleared) _ [("row", 8)] from ⟨rfl, by decide +kernel, by decide +kernel, by decide +kernel, by decide +kernel⟩)) (by exact b_name sc_cleared.nd (i := 8) rfl (fun _ _ _ _ _ => by first | exact Or.inl rfl | exact Or.inr rfl) (fun _ _ _ _ _ => by first | exact Or.inl rfl | exact Or.inr rfl) (by decide)) (fun _ _ _ _ _ => (by exact ts_one (by exact t_truth (by exact DE.r (by exact d_ixV (fun _ _ => rfl) (i := 8) rfl (Or.inl rfl) (by decide) (by decide) (by exact dr_var (i := 1) rfl (by first | exact Or.inr (Or.inr rfl) | exact Or.inr (Or.inl rfl) | exact Or.inl rfl) (by decide) (by decide)))) (fun _ => rfl)))) (fun _ _ _ _ _ => (by exact d_if (by exact t_cmp (op_ltG (hu64 hr)) ops_ordG rfl (by exact d_ixV (fun _ _ => rfl) (i := 8) rfl (Or.inl rfl) (by decide) (by decide) (by exact dr_var (i := 1) rfl (by first | exact Or.inr (Or.inr rfl) | exact Or.inr (Or.inl rfl) | exact Or.inl rfl) (by decide) (by decide))) (by exact DE.r de_int)) (by exact DF.e (by exact d_callCF (ok_scaled T) hr (by decide) rfl T.g_scaled takes0 (by exact c_val (by exact de_var (i := 8) rfl (Or.inl rfl) (by decide) (by decide)) (by exact c_val (by exact d_neg de_int) c_nil rfl) rfl) rfl (by decide) rfl rfl)) (by exact de_var (i := 8) rfl (Or.inl rfl) (by decide) (by decide))))) (by exact ss_one (by exact s_retF (by exact f_bin op_cat opf_cat (by exact DF.e (by exact f_lc sc_cleared.nd (by exact i_any (by exact de_var (i := 0) rfl (Or.inl rfl) (by decide) (by decide))) (own := [("row", 8)]) (by exact (show BlkOk N_cleared (defScope s_cleared) _ [("row", 8)] from ⟨rfl, by decide +kernel, by decide +kernel, by decide +kernel, by decide +kernel⟩)) (by exact b_name sc_cleared.nd (i := 8) rfl (fun _ _ _ _ _ => by first | exact Or.inl rfl | exact Or.inr rfl) (fun _ _ _ _ _ => by first | exact Or.inl rfl | exact Or.inr rfl) (by decide)) (fun _ _ _ _ _ => (by exact ts_one (by exact t_not (by exact t_truth (by exact DE.r (by exact d_ixV (fun _ _ => rfl) (i := 8) rfl (Or.inl rfl) (by decide) (by decide) (by exact dr_var (i := 1) rfl (by first | exact Or.inr (Or.inr rfl) | exact Or.inr (Or.inl rfl) | exact Or.inl rfl) (by decide) (by decide)))) (fun _ => rfl))))) (fun _ _ _ _ _ => (by exact de_var (i := 8) rfl (Or.inl rfl) (by decide) (by decide))))) (by exact dr_var (i := 6) rfl (Or.inl rfl) (by decide) (by decide))))))))
theorem ok_enough_for (T : Tx P w K mg ad) : Cal P w K mg base (lx K ad) ad.f_enough_for 2 P_enough_for F_enough_for :=
  cal_body (k := 1) T.d_enough_for sc_enough_for fun cdv ar outer s H E hr tk => (by exact ss_cons (by exact s_if (by exact t_not (by exact t_truth (by exact dr_var (i := 0) rfl (Or.inl rfl) (by decide) (by decide)) (fun _ => rfl))) (by exact ss_one (by exact s_ret (by exact d_bin op_addA ops_add de_int (by exact DE.r (by exact d_callB1 (call_maxB rfl (hu64 hr)) calls_max rfl T.z_max (by first | rfl | kernel_rfl) (by decide) (by decide) (by exact DE.r (by exact DF.e (by exact f_bin op_cat opf_cat (by exact DF.e (by exact f_lst (by exact a_cons de_int a_nil))) (by exact DE.r (by exact DF.e (by exact f_lc2 sc_enough_for.nd (by exact i_any (by exact de_var (i := 1) rfl (Or.inl rfl) (by decide) (by decide))) (own := [("goal", 6), ("one", 7)]) (by exact (show BlkOk N_enough_for (defScope s_enough_for) _ [("goal", 6), ("one", 7)] from ⟨rfl, by decide +kernel, by decide +kernel, by decide +kernel, by decide +kernel⟩)) (vs1 := [7]) (by decide) (by exact b_name sc_enough_for.nd (i := 6) rfl (fun _ _ _ _ _ => by first | exact Or.inl rfl | exact Or.inr rfl) (fun _ _ _ _ _ => by first | exact Or.inl rfl | exact Or.inr rfl) (by decide)) (fun _ _ _ _ _ => ts_nil) (fun _ _ _ _ _ => (by exact i_any (by exact de_var (i := 6) rfl (Or.inl rfl) (by decide) (by decide)))) (by exact b_name sc_enough_for.nd (i := 7) rfl (fun _ _ _ _ _ => by first | exact Or.inl rfl | exact Or.inr rfl) (fun _ _ _ _ _ => by first | exact Or.inl rfl | exact Or.inr rfl) (by decide)) (fun _ _ _ _ _ => ts_nil) (fun _ _ _ _ _ => (by exact d_callB1 call_abs calls_abs rfl T.z_abs (by first | rfl | kernel_rfl) (by decide) (by decide) (by exact dr_var (i := 7) rfl (Or.inl rfl) (by decide) (by decide))))))))))))))) ss_nil) (by exact ss_cons (by exact s_asg (by exact d_ixV (fun _ _ => rfl) (i := 0) rfl (Or.inl rfl) (by decide) (by decide) (by exact DE.r de_int)) (by exact g_tup (by exact gs_cons (by exact g_name sc_enough_for.nd (i := 2) rfl (Or.inr rfl)) (by exact gs_cons (by exact g_name sc_enough_for.nd (i := 3) rfl (Or.inr rfl)) gs_nil)))) (by exact ss_cons (by exact s_set sc_enough_for.nd (i := 4) rfl (Or.inr rfl) (by exact d_callC (ok_common_of T) hr (by decide) rfl T.g_common_of tk (by exact c_val (by exact de_var (i := 2) rfl (Or.inr (Or.inl rfl)) (by decide) (by decide)) (by exact c_val (by exact de_var (i := 3) rfl (Or.inr (Or.inl rfl)) (by decide) (by decide)) c_nil rfl) rfl) rfl (by decide) rfl rfl)) (by exact ss_cons (by exact s_setLc (i := 5) sc_enough_for.nd rfl rfl (by rfl) (by exact i_any (by exact de_var (i := 1) rfl (Or.inl rfl) (by decide) (by decide))) (own := [("goal", 6)]) (by exact (show BlkOk N_enough_for (defScope s_enough_for) _ [("goal", 6)] from ⟨rfl, by decide +kernel, by decide +kernel, by decide +kernel, by decide +kernel⟩)) (by exact b_name sc_enough_for.nd (i := 6) rfl (fun _ _ _ _ _ => by first | exact Or.inl rfl | exact Or.inr rfl) (fun _ _ _ _ _ => by first | exact Or.inl rfl | exact Or.inr rfl) (by decide)) (fun _ _ _ _ _ => ts_nil) (fun _ _ _ _ _ => (by exact d_callB1 call_abs calls_abs rfl T.z_abs (by first | rfl | kernel_rfl) (by decide) (by decide) (by exact DE.r (by exact d_bin op_sub ops_sub (by exact d_bin op_mulG ops_mulG (by exact d_ixV (fun _ _ => rfl) (i := 6) rfl (Or.inl rfl) (by decide) (by decide) (by exact DE.r de_int)) (by exact DE.r (by exact d_binV op_fdivG ops_divG (i := 3) rfl (by first | exact Or.inr (Or.inr rfl) | exact Or.inr (Or.inl rfl) | exact Or.inl rfl) (by decide) (by decide) (by exact dr_var (i := 4) rfl (by first | exact Or.inr (Or.inr rfl) | exact Or.inr (Or.inl rfl) | exact Or.inl rfl) (by decide) (by decide))))) (by exact DE.r (by exact d_bin op_mulG ops_mulG (by exact d_ixV (fun _ _ => rfl) (i := 6) rfl (Or.inl rfl) (by decide) (by decide) (by exact DE.r de_int)) (by exact DE.r (by exact d_binV op_fdivG ops_divG (i := 2) rfl (by first | exact Or.inr (Or.inr rfl) | exact Or.inr (Or.inl rfl) | exact Or.inl rfl) (by decide) (by decide) (by exact dr_var (i := 4) rfl (by first | exact Or.inr (Or.inr rfl) | exact Or.inr (Or.inl rfl) | exact Or.inl rfl) (by decide) (by decide))))))))))) (by exact ss_one (by exact s_ret (by exact d_binV op_mulG ops_mulG (i := 4) rfl (Or.inr (Or.inl rfl)) (by decide) (by decide) (by exact DE.r (by exact d_bin op_addA ops_add de_int (by exact DE.r (by exact d_callB1 (call_maxB rfl (hu64 hr)) calls_max rfl T.z_max (by first | rfl | kernel_rfl) (by decide) (by decide) (by exact DE.r (by exact DF.e (by exact f_bin op_cat opf_cat (by exact DF.e (by exact f_lst (by exact a_cons de_int a_nil))) (by exact dr_var (i := 5) rfl (Or.inl rfl) (by decide) (by decide))))))))))))))))
theorem ok_law_numbers (T : Tx P w K mg ad) : Cal P w K mg base (lx K ad) ad.f_law_numbers 2 P_law_numbers F_law_numbers :=
  cal_body (k := 1) T.d_law_numbers sc_law_numbers fun cdv ar outer s H E hr tk => (by exact ss_cons (by exact s_set sc_law_numbers.nd (i := 2) rfl (Or.inl rfl) (by exact d_cmp (op_eqA (hu64 hr)) ops_eq rfl (by exact d_callC (ok_law_take T) hr (by decide) rfl T.g_law_take tk (by exact c_own (i := 0) rfl (Or.inl rfl) (by decide) (by decide) (by exact c_val de_int c_nil rfl) rfl) rfl (by decide) rfl rfl) (by exact DE.r de_int))) (by exact ss_one (by exact s_ret (by exact d_bin op_mulG ops_mulG (by exact d_bin op_sub ops_sub (by exact d_callC (ok_law_take T) hr (by decide) rfl T.g_law_take tk (by exact c_own (i := 0) rfl (Or.inl rfl) (by decide) (by decide) (by exact c_val (by exact d_bin op_addA ops_add (by exact d_bin op_mulG ops_mulG de_int (by exact dr_var (i := 1) rfl (Or.inl rfl) (by decide) (by decide))) (by exact DE.r de_int)) c_nil rfl) rfl) rfl (by decide) rfl rfl) (by exact dr_var (i := 1) rfl (Or.inl rfl) (by decide) (by decide))) (by exact DE.r (by exact d_if (by exact t_truth (by exact dr_var (i := 2) rfl (Or.inl rfl) (by decide) (by decide)) (fun _ => rfl)) (by exact d_bin op_addA ops_add (by exact d_bin op_pow ops_pow de_int (by exact DE.r de_int)) (by exact DE.r de_int)) de_int))))))
theorem ok_form_of (T : Tx P w K mg ad) : Cal P w K mg base (lx K ad) ad.f_form_of 3 P_form_of F_form_of :=
  cal_body (k := 2) T.d_form_of sc_form_of fun cdv ar outer s H E hr tk => (by exact ss_cons (by exact s_setLc (i := 1) sc_form_of.nd rfl rfl (by rfl) (by exact i_enum rfl T.z_enumerate (by exact de_var (i := 0) rfl (Or.inr (Or.inl rfl)) (by decide) (by decide))) (own := [("at", 4), ("pair", 6)]) (by exact (show BlkOk N_form_of (defScope s_form_of) _ [("at", 4), ("pair", 6)] from ⟨rfl, by decide +kernel, by decide +kernel, by decide +kernel, by decide +kernel⟩)) (by exact b_tup (by exact bs_cons (by exact b_name sc_form_of.nd (i := 4) rfl (fun _ _ _ _ _ => by first | exact Or.inl rfl | exact Or.inr rfl) (fun _ _ _ _ _ => by first | exact Or.inl rfl | exact Or.inr rfl) (by decide)) (by exact bs_cons (by exact b_name sc_form_of.nd (i := 6) rfl (fun _ _ _ _ _ => by first | exact Or.inl rfl | exact Or.inr rfl) (fun _ _ _ _ _ => by first | exact Or.inl rfl | exact Or.inr rfl) (by decide)) bs_nil))) (fun _ _ _ _ _ => ts_nil) (fun _ _ _ _ _ => (by exact DF.e (by exact f_bin op_cat opf_cat (by exact DF.e (by exact f_list rfl rfl T.z_list (by first | rfl | kernel_rfl) (by decide) (by decide) (by exact dr_var (i := 6) rfl (Or.inl rfl) (by decide) (by decide)))) (by exact DE.r (by exact DF.e (by exact f_lc sc_form_of.nd (by exact i_range1 rfl T.z_range (by exact d_callB1 call_len calls_len rfl T.z_len (by first | rfl | kernel_rfl) (by decide) (by decide) (by exact dr_var (i := 0) rfl (by first | exact Or.inr (Or.inr rfl) | exact Or.inr (Or.inl rfl) | exact Or.inl rfl) (by decide) (by decide)))) (own := [("other", 5)]) (by exact blk_in2 (N' := N_form_of) (sc := defScope s_form_of) rfl rfl ⟨rfl, by decide +kernel, by decide +kernel, by decide +kernel, by decide +kernel⟩) (by exact b_name sc_form_of.nd (i := 5) rfl (fun _ _ _ _ _ => by first | exact Or.inl rfl | exact Or.inr rfl) (fun _ _ _ _ _ => by first | exact Or.inl rfl | exact Or.inr rfl) (by decide)) (fun _ _ _ _ _ => ts_nil) (fun _ _ _ _ _ => (by exact d_callT1 call_int1 calls_int rfl T.z_int (by first | rfl | kernel_rfl) (by decide) (by decide) (by exact DE.r (by exact d_cmpV (op_eqA (hu64 hr)) ops_eq rfl (i := 4) rfl (by first | exact Or.inr (Or.inr rfl) | exact Or.inr (Or.inl rfl) | exact Or.inl rfl) (by decide) (by decide) (by exact dr_var (i := 5) rfl (Or.inl rfl) (by decide) (by decide))))))))))))) (by exact ss_cons (by exact s_setF sc_form_of.nd (i := 1) rfl (Or.inl rfl) (by exact d_callCF (ok_cleared T) hr (by decide) rfl T.g_cleared tk (by exact c_val (by exact de_var (i := 1) rfl (Or.inl rfl) (by decide) (by decide)) (by exact c_val de_int c_nil rfl) rfl) rfl (by decide) rfl rfl)) (by exact ss_cons (by exact s_setLc (i := 2) sc_form_of.nd rfl rfl (by rfl) (by exact i_any (by exact de_var (i := 1) rfl (Or.inl rfl) (by decide) (by decide))) (own := [("row", 7)]) (by exact (show BlkOk N_form_of (defScope s_form_of) _ [("row", 7)] from ⟨rfl, by decide +kernel, by decide +kernel, by decide +kernel, by decide +kernel⟩)) (by exact b_name sc_form_of.nd (i := 7) rfl (fun _ _ _ _ _ => by first | exact Or.inl rfl | exact Or.inr rfl) (fun _ _ _ _ _ => by first | exact Or.inl rfl | exact Or.inr rfl) (by decide)) (fun _ _ _ _ _ => (by exact ts_one (by exact t_truth (by exact DE.r (by exact d_ixV (fun _ _ => rfl) (i := 7) rfl (Or.inl rfl) (by decide) (by decide) (by exact DE.r de_int))) (fun _ => rfl)))) (fun _ _ _ _ _ => (by exact de_var (i := 7) rfl (Or.inl rfl) (by decide) (by decide)))) (by exact ss_cons (by exact s_setLc (i := 3) sc_form_of.nd rfl rfl (by rfl) (by exact i_any (by exact DF.e (by exact d_callCF (ok_cleared T) hr (by decide) rfl T.g_cleared tk (by exact c_val (by exact DF.e (by exact f_lc sc_form_of.nd (by exact i_any (by exact de_var (i := 1) rfl (Or.inl rfl) (by decide) (by decide))) (own := [("row", 7)]) (by exact (show BlkOk N_form_of (defScope s_form_of) _ [("row", 7)] from ⟨rfl, by decide +kernel, by decide +kernel, by decide +kernel, by decide +kernel⟩)) (by exact b_name sc_form_of.nd (i := 7) rfl (fun _ _ _ _ _ => by first | exact Or.inl rfl | exact Or.inr rfl) (fun _ _ _ _ _ => by first | exact Or.inl rfl | exact Or.inr rfl) (by decide)) (fun _ _ _ _ _ => (by exact ts_one (by exact t_not (by exact t_truth (by exact DE.r (by exact d_ixV (fun _ _ => rfl) (i := 7) rfl (Or.inl rfl) (by decide) (by decide) (by exact DE.r de_int))) (fun _ => rfl))))) (fun _ _ _ _ _ => (by exact de_var (i := 7) rfl (Or.inl rfl) (by decide) (by decide))))) (by exact c_val de_int c_nil rfl) rfl) rfl (by decide) rfl rfl))) (own := [("row", 7)]) (by exact (show BlkOk N_form_of (defScope s_form_of) _ [("row", 7)] from ⟨rfl, by decide +kernel, by decide +kernel, by decide +kernel, by decide +kernel⟩)) (by exact b_name sc_form_of.nd (i := 7) rfl (fun _ _ _ _ _ => by first | exact Or.inl rfl | exact Or.inr rfl) (fun _ _ _ _ _ => by first | exact Or.inl rfl | exact Or.inr rfl) (by decide)) (fun _ _ _ _ _ => (by exact ts_one (by exact t_truth (by exact DE.r (by exact d_ixV (fun _ _ => rfl) (i := 7) rfl (Or.inl rfl) (by decide) (by decide) (by exact DE.r de_int))) (fun _ => rfl)))) (fun _ _ _ _ _ => (by exact de_var (i := 7) rfl (Or.inl rfl) (by decide) (by decide)))) (by exact ss_cons (by exact s_if (by exact DW.t (by exact w_and (by exact t_truth (by exact dr_var (i := 2) rfl (Or.inl rfl) (by decide) (by decide)) (fun _ => rfl)) (by exact w_and1 (by exact t_truth (by exact dr_var (i := 3) rfl (Or.inl rfl) (by decide) (by decide)) (fun _ => rfl))))) (by exact ss_one (by exact s_setF sc_form_of.nd (i := 2) rfl (Or.inl rfl) (by exact f_lst (by exact a_cons (by exact DF.e (by exact d_callCF (ok_less T) hr (by decide) rfl T.g_less tk (by exact c_val (by exact d_ixV (fun _ _ => rfl) (i := 2) rfl (Or.inl rfl) (by decide) (by decide) (by exact DE.r de_int)) (by exact c_val (by exact DF.e (by exact d_callCF (ok_scaled T) hr (by decide) rfl T.g_scaled tk (by exact c_val (by exact d_ixV (fun _ _ => rfl) (i := 3) rfl (Or.inl rfl) (by decide) (by decide) (by exact DE.r de_int)) (by exact c_val (by exact d_bin op_fdivG ops_divG (by exact d_ix (fun _ _ => rfl) (by exact d_ixV (fun _ _ => rfl) (i := 2) rfl (Or.inl rfl) (by decide) (by decide) (by exact DE.r de_int)) (by exact DE.r de_int)) (by exact DE.r (by exact d_ix (fun _ _ => rfl) (by exact d_ixV (fun _ _ => rfl) (i := 3) rfl (Or.inl rfl) (by decide) (by decide) (by exact DE.r de_int)) (by exact DE.r de_int)))) c_nil rfl) rfl) rfl (by decide) rfl rfl)) c_nil rfl) rfl) rfl (by decide) rfl rfl)) a_nil)))) ss_nil) (by exact ss_one (by exact s_retF (by exact f_binV op_cat opf_cat (i := 3) rfl (Or.inl rfl) (by decide) (by decide) (by exact dr_var (i := 2) rfl (Or.inl rfl) (by decide) (by decide))))))))))
theorem ok_sums_of (T : Tx P w K mg ad) : Cal P w K mg base (lx K ad) ad.f_sums_of 4 P_sums_of F_sums_of :=
  cal_body (k := 3) T.d_sums_of sc_sums_of fun cdv ar outer s H E hr tk => (by exact ss_cons (by exact s_expr (by exact d_callC (ok_check_pairs T) hr (by decide) rfl T.g_check_pairs tk (by exact c_val (by exact de_var (i := 0) rfl (Or.inl rfl) (by decide) (by decide)) c_nil rfl) rfl (by decide) rfl rfl)) (by exact ss_one (by exact s_ret (by exact d_callT1 call_tuple_of calls_tup rfl T.z_tuple (by first | rfl | kernel_rfl) (by decide) (by decide) (by exact DE.r (by exact DF.e (by exact f_lc sc_sums_of.nd (by exact i_any (by exact DF.e (by exact d_callCF (ok_form_of T) hr (by decide) rfl T.g_form_of tk (by exact c_val (by exact de_var (i := 0) rfl (Or.inl rfl) (by decide) (by decide)) c_nil rfl) rfl (by decide) rfl rfl))) (own := [("row", 1)]) (by exact (show BlkOk N_sums_of (defScope s_sums_of) _ [("row", 1)] from ⟨rfl, by decide +kernel, by decide +kernel, by decide +kernel, by decide +kernel⟩)) (by exact b_name sc_sums_of.nd (i := 1) rfl (fun _ _ _ _ _ => by first | exact Or.inl rfl | exact Or.inr rfl) (fun _ _ _ _ _ => by first | exact Or.inl rfl | exact Or.inr rfl) (by decide)) (fun _ _ _ _ _ => ts_nil) (fun _ _ _ _ _ => (by exact d_callT1 call_tuple_of calls_tup rfl T.z_tuple (by first | rfl | kernel_rfl) (by decide) (by decide) (by exact DE.r (by exact d_slA (by exact de_var (i := 1) rfl (Or.inl rfl) (by decide) (by decide)) o_none (by exact o_some de_int))))))))))))
theorem ok_numbers_for (T : Tx P w K mg ad) : Cal P w K mg base (lx K ad) ad.f_numbers_for 4 P_numbers_for F_numbers_for :=
  cal_body (k := 3) T.d_numbers_for sc_numbers_for fun cdv ar outer s H E hr tk => (by exact ss_cons (by exact s_expr (by exact d_callC (ok_check_pairs T) hr (by decide) rfl T.g_check_pairs tk (by exact c_val (by exact de_var (i := 0) rfl (Or.inl rfl) (by decide) (by decide)) c_nil rfl) rfl (by decide) rfl rfl)) (by exact ss_cons (by exact s_expr (by exact d_callC (ok_check_pairs T) hr (by decide) rfl T.g_check_pairs tk (by exact c_val (by exact DF.e (by exact f_lst (by exact a_cons (by exact de_var (i := 1) rfl (Or.inl rfl) (by decide) (by decide)) a_nil))) c_nil rfl) rfl (by decide) rfl rfl)) (by exact ss_cons (by exact s_setF sc_numbers_for.nd (i := 2) rfl (Or.inl rfl) (by exact f_bin op_rep opf_rep (by exact DF.e (by exact f_lst (by exact a_cons de_int a_nil))) (by exact DE.r (by exact d_callB1 call_len calls_len rfl T.z_len (by first | rfl | kernel_rfl) (by decide) (by decide) (by exact dr_var (i := 0) rfl (Or.inl rfl) (by decide) (by decide)))))) (by exact ss_cons (by exact s_setF sc_numbers_for.nd (i := 3) rfl (Or.inl rfl) (by exact f_list rfl rfl T.z_list (by first | rfl | kernel_rfl) (by decide) (by decide) (by exact dr_var (i := 1) rfl (Or.inl rfl) (by decide) (by decide)))) (by exact ss_cons (by exact s_for (passes_of rfl) (by exact i_any (by exact DF.e (by exact f_rev (by exact DF.e (by exact d_callCF (ok_form_of T) hr (by decide) rfl T.g_form_of tk (by exact c_val (by exact de_var (i := 0) rfl (Or.inl rfl) (by decide) (by decide)) c_nil rfl) rfl (by decide) rfl rfl))))) (by exact g_name sc_numbers_for.nd (i := 4) rfl (Or.inl rfl)) (m := numbers_for_b1) (by exact ss_cons (by exact s_set sc_numbers_for.nd (i := 5) rfl (Or.inl rfl) (by exact d_if (by exact t_truth (by exact DE.r (by exact d_ixV (fun _ _ => rfl) (i := 4) rfl (Or.inl rfl) (by decide) (by decide) (by exact DE.r de_int))) (fun _ => rfl)) de_int de_int)) (by exact ss_cons (by exact s_set sc_numbers_for.nd (i := 6) rfl (Or.inr rfl) (by exact d_bin op_fdivG ops_divG (by exact d_ixV (fun _ _ => rfl) (i := 3) rfl (Or.inl rfl) (by decide) (by decide) (by exact dr_var (i := 5) rfl (Or.inl rfl) (by decide) (by decide))) (by exact DE.r (by exact d_ixV (fun _ _ => rfl) (i := 4) rfl (Or.inl rfl) (by decide) (by decide) (by exact dr_var (i := 5) rfl (Or.inl rfl) (by decide) (by decide)))))) (by exact ss_cons (by exact s_setF sc_numbers_for.nd (i := 3) rfl (Or.inl rfl) (by exact d_callCF (ok_less T) hr (by decide) rfl T.g_less tk (by exact c_val (by exact de_var (i := 3) rfl (Or.inl rfl) (by decide) (by decide)) (by exact c_val (by exact DF.e (by exact d_callCF (ok_scaled T) hr (by decide) rfl T.g_scaled tk (by exact c_val (by exact d_slA (by exact de_var (i := 4) rfl (Or.inl rfl) (by decide) (by decide)) o_none (by exact o_some de_int)) (by exact c_val (by exact de_var (i := 6) rfl (Or.inr (Or.inl rfl)) (by decide) (by decide)) c_nil rfl) rfl) rfl (by decide) rfl rfl)) c_nil rfl) rfl) rfl (by decide) rfl rfl)) (by exact ss_one (by exact s_setLc (i := 2) sc_numbers_for.nd rfl rfl (by rfl) (by exact i_zip rfl T.z_zip (by exact de_var (i := 2) rfl (Or.inl rfl) (by decide) (by decide)) (by exact d_slA (by exact de_var (i := 4) rfl (Or.inl rfl) (by decide) (by decide)) (by exact o_some de_int) o_none)) (own := [("one", 7), ("two", 8)]) (by exact (show BlkOk N_numbers_for (defScope s_numbers_for) _ [("one", 7), ("two", 8)] from ⟨rfl, by decide +kernel, by decide +kernel, by decide +kernel, by decide +kernel⟩)) (by exact b_tup (by exact bs_cons (by exact b_name sc_numbers_for.nd (i := 7) rfl (fun _ _ _ _ _ => by first | exact Or.inl rfl | exact Or.inr rfl) (fun _ _ _ _ _ => by first | exact Or.inl rfl | exact Or.inr rfl) (by decide)) (by exact bs_cons (by exact b_name sc_numbers_for.nd (i := 8) rfl (fun _ _ _ _ _ => by first | exact Or.inl rfl | exact Or.inr rfl) (fun _ _ _ _ _ => by first | exact Or.inl rfl | exact Or.inr rfl) (by decide)) bs_nil))) (fun _ _ _ _ _ => ts_nil) (fun _ _ _ _ _ => (by exact d_binV op_addA ops_add (i := 7) rfl (Or.inl rfl) (by decide) (by decide) (by exact DE.r (by exact d_binV op_mulG ops_mulG (i := 8) rfl (Or.inl rfl) (by decide) (by decide) (by exact dr_var (i := 6) rfl (by first | exact Or.inr (Or.inr rfl) | exact Or.inr (Or.inl rfl) | exact Or.inl rfl) (by decide) (by decide)))))))))))) (by exact ss_one (by exact s_ret (by exact d_if (by exact DW.t (by exact w_or (by exact t_truth (by exact DE.r (by exact d_ixV (fun _ _ => rfl) (i := 3) rfl (Or.inl rfl) (by decide) (by decide) (by exact DE.r de_int))) (fun _ => rfl)) (by exact w_or1 (by exact t_truth (by exact DE.r (by exact d_ixV (fun _ _ => rfl) (i := 3) rfl (Or.inl rfl) (by decide) (by decide) (by exact DE.r de_int))) (fun _ => rfl))))) de_non (by exact d_callT1 call_tuple_of calls_tup rfl T.z_tuple (by first | rfl | kernel_rfl) (by decide) (by decide) (by exact dr_var (i := 2) rfl (Or.inl rfl) (by decide) (by decide)))))))))))
theorem ok_ring_for (T : Tx P w K mg ad) : Cal P w K mg base (lx K ad) ad.f_ring_for 5 P_ring_for F_ring_for :=
  cal_body (k := 4) T.d_ring_for sc_ring_for fun cdv ar outer s H E hr tk => (by exact ss_cons (by exact s_expr (by exact d_callC (ok_check_pairs T) hr (by decide) rfl T.g_check_pairs tk (by exact c_val (by exact de_var (i := 1) rfl (Or.inl rfl) (by decide) (by decide)) c_nil rfl) rfl (by decide) rfl rfl)) (by exact ss_cons (by exact s_set sc_ring_for.nd (i := 2) rfl (Or.inl rfl) (by exact d_callC (ok_sums_of T) hr (by decide) rfl T.g_sums_of tk (by exact c_val (by exact de_var (i := 0) rfl (Or.inl rfl) (by decide) (by decide)) c_nil rfl) rfl (by decide) rfl rfl)) (by exact ss_cons (by exact s_if (by exact t_cmp (op_ltG (hu64 hr)) ops_ordG rfl (by exact d_callB1 call_len calls_len rfl T.z_len (by first | rfl | kernel_rfl) (by decide) (by decide) (by exact dr_var (i := 2) rfl (Or.inl rfl) (by decide) (by decide))) (by exact DE.r de_int)) (by exact ss_cons (by exact s_set sc_ring_for.nd (i := 3) rfl (Or.inl rfl) (by exact d_callC (ok_enough_for T) hr (by decide) rfl T.g_enough_for tk (by exact c_val (by exact de_var (i := 2) rfl (Or.inl rfl) (by decide) (by decide)) (by exact c_val (by exact de_var (i := 1) rfl (Or.inl rfl) (by decide) (by decide)) c_nil rfl) rfl) rfl (by decide) rfl rfl)) (by exact ss_one (by exact s_set sc_ring_for.nd (i := 2) rfl (Or.inl rfl) (by exact d_callC (ok_sums_of T) hr (by decide) rfl T.g_sums_of tk (by exact c_val (by exact DF.e (by exact f_bin op_cat opf_cat (by exact DF.e (by exact f_list rfl rfl T.z_list (by first | rfl | kernel_rfl) (by decide) (by decide) (by exact dr_var (i := 0) rfl (Or.inl rfl) (by decide) (by decide)))) (by exact DE.r (by exact DF.e (by exact f_lst (by exact a_cons (by exact d_tup (by exact a_cons (by exact de_var (i := 3) rfl (Or.inl rfl) (by decide) (by decide)) (by exact a_cons de_int a_nil))) (by exact a_cons (by exact d_tup (by exact a_cons de_int (by exact a_cons (by exact de_var (i := 3) rfl (Or.inl rfl) (by decide) (by decide)) a_nil))) a_nil))))))) c_nil rfl) rfl (by decide) rfl rfl)))) ss_nil) (by exact ss_one (by exact s_ret (by exact d_callC (ok_ring_of T) hr (by decide) rfl T.g_ring_of tk (by exact c_val (by exact de_var (i := 2) rfl (Or.inl rfl) (by decide) (by decide)) c_nil rfl) rfl (by decide) rfl rfl))))))
theorem ok_law_refusal (T : Tx P w K mg ad) : Cal P w K mg base (lx K ad) ad.f_law_refusal 6 P_law_refusal F_law_refusal :=
  cal_body (k := 5) T.d_law_refusal sc_law_refusal fun cdv ar outer s H E hr tk => (by exact ss_cons (by exact s_try rfl rfl sc_law_refusal.nd (i := 1) rfl rfl ⟨rfl, by decide, Or.inl T.x_InvalidKind.gC⟩ tk (hm_InvalidKind T) (fun W pn xe tk po => (by exact ss_one (by exact s_if (by exact t_cmpV (op_eqA (hu64 hr)) ops_eq rfl (i := 0) rfl (Or.inl rfl) (by decide) (by decide) (by exact DE.r de_int)) (by exact ss_one (by exact s_expr (by exact d_callC (ok_sums_of T) hr (by decide) rfl T.g_sums_of tk (by exact c_val (by exact DF.e (by exact f_lst (by exact a_cons (by exact d_tup (by exact a_cons de_int (by exact a_cons de_int (by exact a_cons de_int a_nil)))) a_nil))) c_nil rfl) rfl (by decide) rfl rfl))) (by exact ss_one (by exact s_if (by exact t_cmpV (op_eqA (hu64 hr)) ops_eq rfl (i := 0) rfl (Or.inl rfl) (by decide) (by decide) (by exact DE.r de_int)) (by exact ss_one (by exact s_expr (by exact d_callC (ok_numbers_for T) hr (by decide) rfl T.g_numbers_for tk (by exact c_val (by exact DF.e (by exact f_lst (by exact a_cons (by exact d_tup (by exact a_cons de_int (by exact a_cons de_int a_nil))) a_nil))) (by exact c_val (by exact d_tup (by exact a_cons de_int (by exact a_cons de_bl a_nil))) c_nil rfl) rfl) rfl (by decide) rfl rfl))) (by exact ss_one (by exact s_if (by exact t_cmpV (op_eqA (hu64 hr)) ops_eq rfl (i := 0) rfl (Or.inl rfl) (by decide) (by decide) (by exact DE.r de_int)) (by exact ss_one (by exact s_expr (by exact d_callC (ok_ring_for T) hr (by decide) rfl T.g_ring_for tk (by exact c_val (by exact DF.e (by exact f_lst (by exact a_cons (by exact d_tup (by exact a_cons de_int (by exact a_cons de_int a_nil))) a_nil))) (by exact c_val de_int c_nil rfl) rfl) rfl (by decide) rfl rfl))) (by exact ss_one (by exact s_expr (by exact d_callC (ok_ring_for T) hr (by decide) rfl T.g_ring_for tk (by exact c_val de_str (by exact c_val (by exact DF.e (by exact f_lst a_nil)) c_nil rfl) rfl) rfl (by decide) rfl rfl)))))))))) (fun a oe cls d pn hz hf => (by exact ss_one (by exact s_ret (by exact d_xf T.good hz hf (i := 1) rfl (Or.inl rfl)))))) (by exact ss_one (by exact s_ret de_non)))
theorem fn_law (T : Tx P w K mg ad) {fd : FuncData} (Fn : Fun K "law" "law" s_law ad.f_law fd) : FnOk P w K mg base (L2.CX P w) 7 ad.f_law fd P_law (spD (lx K ad) P_law.length F_law) :=
  fn_body (k := 6) Fn sc_law fun cdv ar outer s H E hr tk => (by exact ss_cons (by exact s_setF sc_law.nd (i := 1) rfl (Or.inr rfl) (by exact d_callCF (ok_law_deck T) hr (by decide) rfl T.g_law_deck tk (by exact c_val (by exact de_var (i := 0) rfl (Or.inl rfl) (by decide) (by decide)) (by exact c_val de_int (by exact c_val de_int c_nil rfl) rfl) rfl) rfl (by decide) rfl rfl)) (by exact ss_cons (by exact s_setF sc_law.nd (i := 2) rfl (Or.inr rfl) (by exact f_lc sc_law.nd (by exact i_range1 rfl T.z_range (by exact d_callC (ok_law_take T) hr (by decide) rfl T.g_law_take tk (by exact c_own (i := 1) rfl (Or.inr (Or.inl rfl)) (by decide) (by decide) (by exact c_val de_int c_nil rfl) rfl) rfl (by decide) rfl rfl)) (own := [("turn", 7)]) (by exact (show BlkOk N_law (defScope s_law) _ [("turn", 7)] from ⟨rfl, by decide +kernel, by decide +kernel, by decide +kernel, by decide +kernel⟩)) (by exact b_name sc_law.nd (i := 7) rfl (fun _ _ _ _ _ => by first | exact Or.inl rfl | exact Or.inr rfl) (fun _ _ _ _ _ => by first | exact Or.inl rfl | exact Or.inr rfl) (by decide)) (fun _ _ _ _ _ => ts_nil) (fun _ _ _ _ _ => (by exact d_tup (by exact a_cons (by exact d_callC (ok_law_numbers T) hr (by decide) rfl T.g_law_numbers takes0 (by exact c_own (i := 1) rfl (by first | exact Or.inr (Or.inr rfl) | exact Or.inr (Or.inl rfl) | exact Or.inl rfl) (by decide) (by decide) (by exact c_val de_int c_nil rfl) rfl) rfl (by decide) rfl rfl) (by exact a_cons (by exact d_callC (ok_law_numbers T) hr (by decide) rfl T.g_law_numbers takes0 (by exact c_own (i := 1) rfl (by first | exact Or.inr (Or.inr rfl) | exact Or.inr (Or.inl rfl) | exact Or.inl rfl) (by decide) (by decide) (by exact c_val de_int c_nil rfl) rfl) rfl (by decide) rfl rfl) a_nil)))))) (by exact ss_cons (by exact s_set sc_law.nd (i := 3) rfl (Or.inl rfl) (by exact d_callC (ok_sums_of T) hr (by decide) rfl T.g_sums_of tk (by exact c_val (by exact de_var (i := 2) rfl (Or.inr (Or.inl rfl)) (by decide) (by decide)) c_nil rfl) rfl (by decide) rfl rfl)) (by exact ss_cons (by exact s_if (by exact DW.t (by exact w_or (by exact t_not (by exact t_truth (by exact DE.r (by exact d_isi (T := "tuple") rfl T.z_isinstance (by first | rfl | kernel_rfl) (by decide) (by decide) rfl T.z_tuple (by first | rfl | kernel_rfl) (by decide) (by decide) (by exact de_var (i := 3) rfl (Or.inl rfl) (by decide) (by decide)))) (fun _ => rfl))) (by exact w_or (by exact t_cmp (op_gtG (hu64 hr)) ops_ordG rfl (by exact d_callB1 call_len calls_len rfl T.z_len (by first | rfl | kernel_rfl) (by decide) (by decide) (by exact dr_var (i := 3) rfl (Or.inl rfl) (by decide) (by decide))) (by exact DE.r de_int)) (by exact w_or1 (by exact t_not (by exact t_truth (by exact DE.r (by exact d_callC (ok_law_form T) hr (by decide) rfl T.g_law_form tk (by exact c_val (by exact de_var (i := 3) rfl (Or.inl rfl) (by decide) (by decide)) c_nil rfl) rfl (by decide) rfl rfl)) (fun _ => rfl))))))) (by exact ss_one (by exact s_ret de_bl)) ss_nil) (by exact ss_cons (by exact s_for (passes_of rfl) (by exact i_any (by exact de_var (i := 3) rfl (Or.inl rfl) (by decide) (by decide))) (by exact g_name sc_law.nd (i := 4) rfl (Or.inl rfl)) (m := law_b1) (by exact ss_one (by exact s_if (by exact t_not (by exact t_truth (by exact DE.r (by exact d_callC (ok_law_in_sums T) hr (by decide) rfl T.g_law_in_sums tk (by exact c_val (by exact de_var (i := 2) rfl (Or.inr (Or.inl rfl)) (by decide) (by decide)) (by exact c_val (by exact de_var (i := 4) rfl (Or.inl rfl) (by decide) (by decide)) c_nil rfl) rfl) rfl (by decide) rfl rfl)) (fun _ => rfl))) (by exact ss_one (by exact s_ret de_bl)) ss_nil))) (by exact ss_cons (by exact s_for (passes_of rfl) (by exact i_any (by exact de_var (i := 2) rfl (Or.inr (Or.inl rfl)) (by decide) (by decide))) (by exact g_name sc_law.nd (i := 5) rfl (Or.inr rfl)) (m := law_b2) (by exact ss_one (by exact s_if (by exact t_not (by exact t_truth (by exact DE.r (by exact d_callC (ok_law_in_sums T) hr (by decide) rfl T.g_law_in_sums tk (by exact c_val (by exact de_var (i := 3) rfl (Or.inl rfl) (by decide) (by decide)) (by exact c_val (by exact de_var (i := 5) rfl (Or.inr (Or.inl rfl)) (by decide) (by decide)) c_nil rfl) rfl) rfl (by decide) rfl rfl)) (fun _ => rfl))) (by exact ss_one (by exact s_ret de_bl)) ss_nil))) (by exact ss_cons (by exact s_setF sc_law.nd (i := 6) rfl (Or.inr rfl) (by exact f_lst a_nil)) (by exact ss_cons (by exact s_for (passes_of rfl) (by exact i_range1 rfl T.z_range de_int) (by exact g_name sc_law.nd (i := 7) rfl (Or.inl rfl)) (m := law_b4) (by exact ss_cons (by exact s_setF sc_law.nd (i := 8) rfl (Or.inr rfl) (by exact f_lst (by exact a_cons (by exact d_callC (ok_law_numbers T) hr (by decide) rfl T.g_law_numbers tk (by exact c_own (i := 1) rfl (Or.inr (Or.inl rfl)) (by decide) (by decide) (by exact c_val de_int c_nil rfl) rfl) rfl (by decide) rfl rfl) (by exact a_cons (by exact d_callC (ok_law_numbers T) hr (by decide) rfl T.g_law_numbers tk (by exact c_own (i := 1) rfl (Or.inr (Or.inl rfl)) (by decide) (by decide) (by exact c_val de_int c_nil rfl) rfl) rfl (by decide) rfl rfl) a_nil)))) (by exact ss_cons (by exact s_if (by exact t_cmp (op_eqA (hu64 hr)) ops_eq rfl (by exact d_callC (ok_law_take T) hr (by decide) rfl T.g_law_take tk (by exact c_own (i := 1) rfl (Or.inr (Or.inl rfl)) (by decide) (by decide) (by exact c_val de_int c_nil rfl) rfl) rfl (by decide) rfl rfl) (by exact DE.r de_int)) (by exact ss_one (by exact s_for (passes_of rfl) (by exact i_any (by exact de_var (i := 2) rfl (Or.inr (Or.inl rfl)) (by decide) (by decide))) (by exact g_name sc_law.nd (i := 5) rfl (Or.inr rfl)) (m := law_b3) (by exact ss_cons (by exact s_set sc_law.nd (i := 9) rfl (Or.inr rfl) (by exact d_bin op_sub ops_sub (by exact d_callC (ok_law_take T) hr (by decide) rfl T.g_law_take tk (by exact c_own (i := 1) rfl (Or.inr (Or.inl rfl)) (by decide) (by decide) (by exact c_val de_int c_nil rfl) rfl) rfl (by decide) rfl rfl) (by exact DE.r de_int))) (by exact ss_one (by exact s_setF sc_law.nd (i := 8) rfl (Or.inr rfl) (by exact f_lc sc_law.nd (by exact i_range1 rfl T.z_range de_int) (own := [("at", 15)]) (by exact (show BlkOk N_law (defScope s_law) _ [("at", 15)] from ⟨rfl, by decide +kernel, by decide +kernel, by decide +kernel, by decide +kernel⟩)) (by exact b_name sc_law.nd (i := 15) rfl (fun _ _ _ _ _ => by first | exact Or.inl rfl | exact Or.inr rfl) (fun _ _ _ _ _ => by first | exact Or.inl rfl | exact Or.inr rfl) (by decide)) (fun _ _ _ _ _ => ts_nil) (fun _ _ _ _ _ => (by exact d_bin op_addA ops_add (by exact d_bin op_mulG ops_mulG (by exact d_ixV (fun _ _ => rfl) (i := 8) rfl (by first | exact Or.inr (Or.inr rfl) | exact Or.inr (Or.inl rfl) | exact Or.inl rfl) (by decide) (by decide) (by exact dr_var (i := 15) rfl (Or.inl rfl) (by decide) (by decide))) (by exact DE.r (by exact d_callT1 call_int1 calls_int rfl T.z_int (by first | rfl | kernel_rfl) (by decide) (by decide) (by exact DE.r (by exact d_cmp (op_eqA (hu64 hr)) ops_eq rfl (by exact d_bin op_modN ops_modG (by exact d_callB1 call_len calls_len rfl T.z_len (by first | rfl | kernel_rfl) (by decide) (by decide) (by exact dr_var (i := 6) rfl (by first | exact Or.inr (Or.inr rfl) | exact Or.inr (Or.inl rfl) | exact Or.inl rfl) (by decide) (by decide))) (by exact DE.r de_int)) (by exact DE.r de_int)))))) (by exact DE.r (by exact d_bin op_mulG ops_mulG (by exact d_ixV (fun _ _ => rfl) (i := 5) rfl (by first | exact Or.inr (Or.inr rfl) | exact Or.inr (Or.inl rfl) | exact Or.inl rfl) (by decide) (by decide) (by exact dr_var (i := 15) rfl (Or.inl rfl) (by decide) (by decide))) (by exact dr_var (i := 9) rfl (by first | exact Or.inr (Or.inr rfl) | exact Or.inr (Or.inl rfl) | exact Or.inl rfl) (by decide) (by decide)))))))))))) ss_nil) (by exact ss_one (by exact s_expr (by exact d_append rfl (i := 6) rfl (Or.inr (Or.inl rfl)) (by decide) (by decide) (by exact d_callT1 call_tuple_of calls_tup rfl T.z_tuple (by first | rfl | kernel_rfl) (by decide) (by decide) (by exact dr_var (i := 8) rfl (Or.inr (Or.inl rfl)) (by decide) (by decide))))))))) (by exact ss_cons (by exact s_for (passes_of rfl) (by exact i_any (by exact de_var (i := 6) rfl (Or.inr (Or.inl rfl)) (by decide) (by decide))) (by exact g_name sc_law.nd (i := 8) rfl (Or.inr rfl)) (m := law_b5) (by exact ss_cons (by exact s_set sc_law.nd (i := 10) rfl (Or.inl rfl) (by exact d_callC (ok_law_in_sums T) hr (by decide) rfl T.g_law_in_sums tk (by exact c_val (by exact de_var (i := 2) rfl (Or.inr (Or.inl rfl)) (by decide) (by decide)) (by exact c_val (by exact de_var (i := 8) rfl (Or.inr (Or.inl rfl)) (by decide) (by decide)) c_nil rfl) rfl) rfl (by decide) rfl rfl)) (by exact ss_cons (by exact s_set sc_law.nd (i := 11) rfl (Or.inr rfl) (by exact d_callC (ok_numbers_for T) hr (by decide) rfl T.g_numbers_for tk (by exact c_val (by exact de_var (i := 2) rfl (Or.inr (Or.inl rfl)) (by decide) (by decide)) (by exact c_val (by exact de_var (i := 8) rfl (Or.inr (Or.inl rfl)) (by decide) (by decide)) c_nil rfl) rfl) rfl (by decide) rfl rfl)) (by exact ss_cons (by exact s_if (by exact t_cmp (op_neA (hu64 hr)) ops_ne rfl (by exact d_cmpV op_notN ops_isnt rfl (i := 11) rfl (Or.inr (Or.inl rfl)) (by decide) (by decide) (by exact DE.r de_non)) (by exact dr_var (i := 10) rfl (Or.inl rfl) (by decide) (by decide))) (by exact ss_one (by exact s_ret de_bl)) ss_nil) (by exact ss_one (by exact s_if (by exact t_cmpV op_notN ops_isnt rfl (i := 11) rfl (Or.inr (Or.inl rfl)) (by decide) (by decide) (by exact DE.r de_non)) (by exact ss_cons (by exact s_setLc (i := 12) sc_law.nd rfl rfl (by rfl) (by exact i_range1 rfl T.z_range de_int) (own := [("at", 15)]) (by exact (show BlkOk N_law (defScope s_law) _ [("at", 15)] from ⟨rfl, by decide +kernel, by decide +kernel, by decide +kernel, by decide +kernel⟩)) (by exact b_name sc_law.nd (i := 15) rfl (fun _ _ _ _ _ => by first | exact Or.inl rfl | exact Or.inr rfl) (fun _ _ _ _ _ => by first | exact Or.inl rfl | exact Or.inr rfl) (by decide)) (fun _ _ _ _ _ => ts_nil) (fun _ _ _ _ _ => (by exact d_callB1 (cr_sum rfl) calls_sum rfl T.z_sum (by first | rfl | kernel_rfl) (by decide) (by decide) (by exact DE.r (by exact DF.e (by exact f_lc sc_law.nd (by exact i_zip rfl T.z_zip (by exact de_var (i := 2) rfl (by first | exact Or.inr (Or.inr rfl) | exact Or.inr (Or.inl rfl) | exact Or.inl rfl) (by decide) (by decide)) (by exact de_var (i := 11) rfl (by first | exact Or.inr (Or.inr rfl) | exact Or.inr (Or.inl rfl) | exact Or.inl rfl) (by decide) (by decide))) (own := [("pair", 5), ("times", 9)]) (by exact blk_in2 (N' := N_law) (sc := defScope s_law) rfl rfl ⟨rfl, by decide +kernel, by decide +kernel, by decide +kernel, by decide +kernel⟩) (by exact b_tup (by exact bs_cons (by exact b_name sc_law.nd (i := 5) rfl (fun _ _ _ _ _ => by first | exact Or.inl rfl | exact Or.inr rfl) (fun _ _ _ _ _ => by first | exact Or.inl rfl | exact Or.inr rfl) (by decide)) (by exact bs_cons (by exact b_name sc_law.nd (i := 9) rfl (fun _ _ _ _ _ => by first | exact Or.inl rfl | exact Or.inr rfl) (fun _ _ _ _ _ => by first | exact Or.inl rfl | exact Or.inr rfl) (by decide)) bs_nil))) (fun _ _ _ _ _ => ts_nil) (fun _ _ _ _ _ => (by exact d_bin op_mulG ops_mulG (by exact d_ixV (fun _ _ => rfl) (i := 5) rfl (Or.inl rfl) (by decide) (by decide) (by exact dr_var (i := 15) rfl (by first | exact Or.inr (Or.inr rfl) | exact Or.inr (Or.inl rfl) | exact Or.inl rfl) (by decide) (by decide))) (by exact dr_var (i := 9) rfl (Or.inl rfl) (by decide) (by decide)))))))))) (by exact ss_one (by exact s_if (by exact DW.t (by exact w_or (by exact t_cmp (op_neA (hu64 hr)) ops_ne rfl (by exact d_callB1 call_len calls_len rfl T.z_len (by first | rfl | kernel_rfl) (by decide) (by decide) (by exact dr_var (i := 11) rfl (Or.inr (Or.inl rfl)) (by decide) (by decide))) (by exact DE.r (by exact d_callB1 call_len calls_len rfl T.z_len (by first | rfl | kernel_rfl) (by decide) (by decide) (by exact dr_var (i := 2) rfl (Or.inr (Or.inl rfl)) (by decide) (by decide))))) (by exact w_or1 (by exact t_cmp (op_neA (hu64 hr)) ops_ne rfl (by exact d_callT1 call_tuple_of calls_tup rfl T.z_tuple (by first | rfl | kernel_rfl) (by decide) (by decide) (by exact dr_var (i := 12) rfl (Or.inl rfl) (by decide) (by decide))) (by exact dr_var (i := 8) rfl (Or.inr (Or.inl rfl)) (by decide) (by decide)))))) (by exact ss_one (by exact s_ret de_bl)) ss_nil))) ss_nil)))))) (by exact ss_cons (by exact s_set sc_law.nd (i := 13) rfl (Or.inl rfl) (by exact d_callC (ok_ring_for T) hr (by decide) rfl T.g_ring_for tk (by exact c_val (by exact de_var (i := 2) rfl (Or.inr (Or.inl rfl)) (by decide) (by decide)) (by exact c_val (by exact de_var (i := 6) rfl (Or.inr (Or.inl rfl)) (by decide) (by decide)) c_nil rfl) rfl) rfl (by decide) rfl rfl)) (by exact ss_cons (by exact s_if (by exact DW.t (by exact w_or (by exact t_cmp (op_neA (hu64 hr)) ops_ne rfl (by exact d_callB1 call_len calls_len rfl T.z_len (by first | rfl | kernel_rfl) (by decide) (by decide) (by exact dr_var (i := 13) rfl (Or.inl rfl) (by decide) (by decide))) (by exact DE.r de_int)) (by exact w_or (by exact t_cmp (op_ltG (hu64 hr)) ops_ordG rfl (by exact d_ixV (fun _ _ => rfl) (i := 13) rfl (Or.inl rfl) (by decide) (by decide) (by exact DE.r de_int)) (by exact DE.r de_int)) (by exact w_or (by exact t_cmp (op_ltG (hu64 hr)) ops_ordG rfl (by exact d_ixV (fun _ _ => rfl) (i := 13) rfl (Or.inl rfl) (by decide) (by decide) (by exact DE.r de_int)) (by exact DE.r de_int)) (by exact w_or (by exact t_cmp (op_ltG (hu64 hr)) ops_ordG rfl (by exact d_ixV (fun _ _ => rfl) (i := 13) rfl (Or.inl rfl) (by decide) (by decide) (by exact DE.r de_int)) (by exact DE.r de_int)) (by exact w_or1 (by exact t_cmp (op_geG (hu64 hr)) ops_ordG rfl (by exact d_ixV (fun _ _ => rfl) (i := 13) rfl (Or.inl rfl) (by decide) (by decide) (by exact DE.r de_int)) (by exact DE.r (by exact d_ixV (fun _ _ => rfl) (i := 13) rfl (Or.inl rfl) (by decide) (by decide) (by exact DE.r de_int)))))))))) (by exact ss_one (by exact s_ret de_bl)) ss_nil) (by exact ss_cons (by exact s_for (passes_of rfl) (by exact i_any (by exact de_var (i := 2) rfl (Or.inr (Or.inl rfl)) (by decide) (by decide))) (by exact g_name sc_law.nd (i := 5) rfl (Or.inr rfl)) (m := law_b6) (by exact ss_one (by exact s_if (by exact t_cmp (op_neA (hu64 hr)) ops_ne rfl (by exact d_callC (ok_law_shifted T) hr (by decide) rfl T.g_law_shifted tk (by exact c_val (by exact de_var (i := 13) rfl (Or.inl rfl) (by decide) (by decide)) (by exact c_val (by exact d_tup (by exact a_cons de_int (by exact a_cons de_int a_nil))) (by exact c_val (by exact de_var (i := 5) rfl (Or.inr (Or.inl rfl)) (by decide) (by decide)) c_nil rfl) rfl) rfl) rfl (by decide) rfl rfl) (by exact DE.r (by exact d_tup (by exact a_cons de_int (by exact a_cons de_int a_nil))))) (by exact ss_one (by exact s_ret de_bl)) ss_nil))) (by exact ss_cons (by exact s_for (passes_of rfl) (by exact i_any (by exact de_var (i := 6) rfl (Or.inr (Or.inl rfl)) (by decide) (by decide))) (by exact g_name sc_law.nd (i := 8) rfl (Or.inr rfl)) (m := law_b7) (by exact ss_one (by exact s_if (by exact DW.t (by exact w_and (by exact t_not (by exact t_truth (by exact DE.r (by exact d_callC (ok_law_in_sums T) hr (by decide) rfl T.g_law_in_sums tk (by exact c_val (by exact de_var (i := 2) rfl (Or.inr (Or.inl rfl)) (by decide) (by decide)) (by exact c_val (by exact de_var (i := 8) rfl (Or.inr (Or.inl rfl)) (by decide) (by decide)) c_nil rfl) rfl) rfl (by decide) rfl rfl)) (fun _ => rfl))) (by exact w_and1 (by exact t_cmp (op_eqA (hu64 hr)) ops_eq rfl (by exact d_callC (ok_law_shifted T) hr (by decide) rfl T.g_law_shifted tk (by exact c_val (by exact de_var (i := 13) rfl (Or.inl rfl) (by decide) (by decide)) (by exact c_val (by exact d_tup (by exact a_cons de_int (by exact a_cons de_int a_nil))) (by exact c_val (by exact de_var (i := 8) rfl (Or.inr (Or.inl rfl)) (by decide) (by decide)) c_nil rfl) rfl) rfl) rfl (by decide) rfl rfl) (by exact DE.r (by exact d_tup (by exact a_cons de_int (by exact a_cons de_int a_nil)))))))) (by exact ss_one (by exact s_ret de_bl)) ss_nil))) (by exact ss_cons (by exact s_set sc_law.nd (i := 14) rfl (Or.inl rfl) (by exact d_sm1 PySem.F.slot_str_join PySem.F.type_str_join mt_join sm_join de_str (by exact DE.r (by exact DF.e (by exact f_lc sc_law.nd (by exact i_range1 rfl T.z_range (by exact d_callC (ok_law_take T) hr (by decide) rfl T.g_law_take tk (by exact c_own (i := 1) rfl (Or.inr (Or.inl rfl)) (by decide) (by decide) (by exact c_val de_int c_nil rfl) rfl) rfl (by decide) rfl rfl)) (own := [("turn", 7)]) (by exact (show BlkOk N_law (defScope s_law) _ [("turn", 7)] from ⟨rfl, by decide +kernel, by decide +kernel, by decide +kernel, by decide +kernel⟩)) (by exact b_name sc_law.nd (i := 7) rfl (fun _ _ _ _ _ => by first | exact Or.inl rfl | exact Or.inr rfl) (fun _ _ _ _ _ => by first | exact Or.inl rfl | exact Or.inr rfl) (by decide)) (fun _ _ _ _ _ => ts_nil) (fun _ _ _ _ _ => (by exact d_ix (fun _ _ => rfl) de_str (by exact DE.r (by exact d_callC (ok_law_take T) hr (by decide) rfl T.g_law_take takes0 (by exact c_own (i := 1) rfl (by first | exact Or.inr (Or.inr rfl) | exact Or.inr (Or.inl rfl) | exact Or.inl rfl) (by decide) (by decide) (by exact c_val de_int c_nil rfl) rfl) rfl (by decide) rfl rfl))))))))) (by exact ss_one (by exact s_ret (by exact d_and (by exact d_cmp (op_eqA (hu64 hr)) ops_eq rfl (by exact d_callC (ok_pair_of T) hr (by decide) rfl T.g_pair_of tk (by exact c_val (by exact de_var (i := 14) rfl (Or.inl rfl) (by decide) (by decide)) c_nil rfl) rfl (by decide) rfl rfl) (by exact DE.r (by exact d_callC (ok_law_pair T) hr (by decide) rfl T.g_law_pair tk (by exact c_val (by exact de_var (i := 14) rfl (Or.inl rfl) (by decide) (by decide)) c_nil rfl) rfl (by decide) rfl rfl))) (by exact d_one (by exact d_cmp (op_eqA (hu64 hr)) ops_eq rfl (by exact d_callC (ok_law_refusal T) hr (by decide) rfl T.g_law_refusal tk (by exact c_val (by exact d_callC (ok_law_take T) hr (by decide) rfl T.g_law_take tk (by exact c_own (i := 1) rfl (Or.inr (Or.inl rfl)) (by decide) (by decide) (by exact c_val de_int c_nil rfl) rfl) rfl (by decide) rfl rfl) c_nil rfl) rfl (by decide) rfl rfl) (by exact DE.r de_str))))))))))))))))))))
end
theorem all_mk {P : Program} {w : World} {K : PySem.W.Frag} {h : Heap} {mg : Str → Option Value} {fa f_is_whole_number f_check_pairs f_pair_of f_scaled f_less f_cleared f_form_of f_sums_of f_numbers_for f_common_of f_enough_for f_ring_of f_ring_for f_law_deck f_law_take f_law_pair f_law_in_sums f_law_shifted f_law_numbers f_law_refusal f_law_form f_law C_InvalidKind I_InvalidKind cda_InvalidKind cc_InvalidKind t_STEPS : Addr} {t_STEPS_0 t_STEPS_1 t_STEPS_2 t_STEPS_3 : Addr} {its_STEPS_0 its_STEPS_1 its_STEPS_2 its_STEPS_3 : Array Value} {n_STEPS_0 n_STEPS_1 n_STEPS_2 n_STEPS_3 : Nat} {slt_STEPS_0 slt_STEPS_1 slt_STEPS_2 slt_STEPS_3 : Array (Option Value)} {es_STEPS : Array DictEntry} {n_STEPS : Nat} {od_is_whole_number an_is_whole_number od_check_pairs an_check_pairs od_pair_of an_pair_of od_scaled an_scaled od_less an_less od_cleared an_cleared od_form_of an_form_of od_sums_of an_sums_of od_numbers_for an_numbers_for od_common_of an_common_of od_enough_for an_enough_for od_ring_of an_ring_of od_ring_for an_ring_for od_law_deck an_law_deck od_law_take an_law_take od_law_pair an_law_pair od_law_in_sums an_law_in_sums od_law_shifted an_law_shifted od_law_numbers an_law_numbers od_law_refusal an_law_refusal od_law_form an_law_form od_law an_law : Option Addr} {sl_is_whole_number sl_check_pairs sl_pair_of sl_scaled sl_less sl_cleared sl_form_of sl_sums_of sl_numbers_for sl_common_of sl_enough_for sl_ring_of sl_ring_for sl_law_deck sl_law_take sl_law_pair sl_law_in_sums sl_law_shifted sl_law_numbers sl_law_refusal sl_law_form sl_law : Array (Option Value)} {oc_is_whole_number kV_is_whole_number dc_is_whole_number pm_is_whole_number cd_is_whole_number ct_is_whole_number oc_check_pairs kV_check_pairs dc_check_pairs pm_check_pairs cd_check_pairs ct_check_pairs oc_pair_of kV_pair_of dc_pair_of pm_pair_of cd_pair_of ct_pair_of oc_scaled kV_scaled dc_scaled pm_scaled cd_scaled ct_scaled oc_less kV_less dc_less pm_less cd_less ct_less oc_cleared kV_cleared dc_cleared pm_cleared cd_cleared ct_cleared oc_form_of kV_form_of dc_form_of pm_form_of cd_form_of ct_form_of oc_sums_of kV_sums_of dc_sums_of pm_sums_of cd_sums_of ct_sums_of oc_numbers_for kV_numbers_for dc_numbers_for pm_numbers_for cd_numbers_for ct_numbers_for oc_common_of kV_common_of dc_common_of pm_common_of cd_common_of ct_common_of oc_enough_for kV_enough_for dc_enough_for pm_enough_for cd_enough_for ct_enough_for oc_ring_of kV_ring_of dc_ring_of pm_ring_of cd_ring_of ct_ring_of oc_ring_for kV_ring_for dc_ring_for pm_ring_for cd_ring_for ct_ring_for oc_law_deck kV_law_deck dc_law_deck pm_law_deck cd_law_deck ct_law_deck oc_law_take kV_law_take dc_law_take pm_law_take cd_law_take ct_law_take oc_law_pair kV_law_pair dc_law_pair pm_law_pair cd_law_pair ct_law_pair oc_law_in_sums kV_law_in_sums dc_law_in_sums pm_law_in_sums cd_law_in_sums ct_law_in_sums oc_law_shifted kV_law_shifted dc_law_shifted pm_law_shifted cd_law_shifted ct_law_shifted oc_law_numbers kV_law_numbers dc_law_numbers pm_law_numbers cd_law_numbers ct_law_numbers oc_law_refusal kV_law_refusal dc_law_refusal pm_law_refusal cd_law_refusal ct_law_refusal oc_law_form kV_law_form dc_law_form pm_law_form cd_law_form ct_law_form oc_law kV_law dc_law pm_law cd_law ct_law : Value} {nm_InvalidKind q_InvalidKind qual_InvalidKind file_InvalidKind : Str} {N_InvalidKind : Addr} {bs_InvalidKind bm_InvalidKind sub_InvalidKind : List Value} {sn_InvalidKind : List Str} {ab_InvalidKind : Bool} {col_InvalidKind : Option Bool} {dd_InvalidKind od_InvalidKind an_InvalidKind cdd_InvalidKind cld_InvalidKind : Option Addr} {k0_InvalidKind k1_InvalidKind k2_InvalidKind k3_InvalidKind k5_InvalidKind : Option Value} {oc_InvalidKind doc_InvalidKind pm_InvalidKind ct_InvalidKind ccl_InvalidKind cl_InvalidKind : Value} {osl_InvalidKind ccs_InvalidKind csl_InvalidKind : Array (Option Value)} {vs_InvalidKind : Array Value} {tf_InvalidKind : Tok} (X : K.In h) (G : h.Ns mainGlobals mg) (hfa : mg "law" = some (.ref fa))
    (z_abs : PySem.W.nsIn K mainGlobals "abs" = some none)
    (z_bool : PySem.W.nsIn K mainGlobals "bool" = some none)
    (z_enumerate : PySem.W.nsIn K mainGlobals "enumerate" = some none)
    (z_int : PySem.W.nsIn K mainGlobals "int" = some none)
    (z_isinstance : PySem.W.nsIn K mainGlobals "isinstance" = some none)
    (z_len : PySem.W.nsIn K mainGlobals "len" = some none)
    (z_list : PySem.W.nsIn K mainGlobals "list" = some none)
    (z_max : PySem.W.nsIn K mainGlobals "max" = some none)
    (z_min : PySem.W.nsIn K mainGlobals "min" = some none)
    (z_range : PySem.W.nsIn K mainGlobals "range" = some none)
    (z_sum : PySem.W.nsIn K mainGlobals "sum" = some none)
    (z_tuple : PySem.W.nsIn K mainGlobals "tuple" = some none)
    (z_zip : PySem.W.nsIn K mainGlobals "zip" = some none)
    (a_is_whole_number : PySem.W.nsIn K mainGlobals "is_whole_number" = some (some (.ref f_is_whole_number)))
    (l_is_whole_number : K.lookup f_is_whole_number = some ⟨oc_is_whole_number, od_is_whole_number, .func (PySem.W.fnOf "is_whole_number" "is_whole_number" (defArgs s_is_whole_number) (defBody s_is_whole_number) (defScope s_is_whole_number) .none kV_is_whole_number dc_is_whole_number pm_is_whole_number an_is_whole_number cd_is_whole_number ct_is_whole_number), sl_is_whole_number⟩)
    (c_is_whole_number : PySem.W.codeIn K cd_is_whole_number "is_whole_number" = true)
    (k_is_whole_number : PySem.W.keepIn K (.ref f_is_whole_number) = true)
    (a_check_pairs : PySem.W.nsIn K mainGlobals "check_pairs" = some (some (.ref f_check_pairs)))
    (l_check_pairs : K.lookup f_check_pairs = some ⟨oc_check_pairs, od_check_pairs, .func (PySem.W.fnOf "check_pairs" "check_pairs" (defArgs s_check_pairs) (defBody s_check_pairs) (defScope s_check_pairs) .none kV_check_pairs dc_check_pairs pm_check_pairs an_check_pairs cd_check_pairs ct_check_pairs), sl_check_pairs⟩)
    (c_check_pairs : PySem.W.codeIn K cd_check_pairs "check_pairs" = true)
    (k_check_pairs : PySem.W.keepIn K (.ref f_check_pairs) = true)
    (a_pair_of : PySem.W.nsIn K mainGlobals "pair_of" = some (some (.ref f_pair_of)))
    (l_pair_of : K.lookup f_pair_of = some ⟨oc_pair_of, od_pair_of, .func (PySem.W.fnOf "pair_of" "pair_of" (defArgs s_pair_of) (defBody s_pair_of) (defScope s_pair_of) .none kV_pair_of dc_pair_of pm_pair_of an_pair_of cd_pair_of ct_pair_of), sl_pair_of⟩)
    (c_pair_of : PySem.W.codeIn K cd_pair_of "pair_of" = true)
    (k_pair_of : PySem.W.keepIn K (.ref f_pair_of) = true)
    (a_scaled : PySem.W.nsIn K mainGlobals "scaled" = some (some (.ref f_scaled)))
    (l_scaled : K.lookup f_scaled = some ⟨oc_scaled, od_scaled, .func (PySem.W.fnOf "scaled" "scaled" (defArgs s_scaled) (defBody s_scaled) (defScope s_scaled) .none kV_scaled dc_scaled pm_scaled an_scaled cd_scaled ct_scaled), sl_scaled⟩)
    (c_scaled : PySem.W.codeIn K cd_scaled "scaled" = true)
    (k_scaled : PySem.W.keepIn K (.ref f_scaled) = true)
    (a_less : PySem.W.nsIn K mainGlobals "less" = some (some (.ref f_less)))
    (l_less : K.lookup f_less = some ⟨oc_less, od_less, .func (PySem.W.fnOf "less" "less" (defArgs s_less) (defBody s_less) (defScope s_less) .none kV_less dc_less pm_less an_less cd_less ct_less), sl_less⟩)
    (c_less : PySem.W.codeIn K cd_less "less" = true)
    (k_less : PySem.W.keepIn K (.ref f_less) = true)
    (a_cleared : PySem.W.nsIn K mainGlobals "cleared" = some (some (.ref f_cleared)))
    (l_cleared : K.lookup f_cleared = some ⟨oc_cleared, od_cleared, .func (PySem.W.fnOf "cleared" "cleared" (defArgs s_cleared) (defBody s_cleared) (defScope s_cleared) .none kV_cleared dc_cleared pm_cleared an_cleared cd_cleared ct_cleared), sl_cleared⟩)
    (c_cleared : PySem.W.codeIn K cd_cleared "cleared" = true)
    (k_cleared : PySem.W.keepIn K (.ref f_cleared) = true)
    (a_form_of : PySem.W.nsIn K mainGlobals "form_of" = some (some (.ref f_form_of)))
    (l_form_of : K.lookup f_form_of = some ⟨oc_form_of, od_form_of, .func (PySem.W.fnOf "form_of" "form_of" (defArgs s_form_of) (defBody s_form_of) (defScope s_form_of) .none kV_form_of dc_form_of pm_form_of an_form_of cd_form_of ct_form_of), sl_form_of⟩)
    (c_form_of : PySem.W.codeIn K cd_form_of "form_of" = true)
    (k_form_of : PySem.W.keepIn K (.ref f_form_of) = true)
    (a_sums_of : PySem.W.nsIn K mainGlobals "sums_of" = some (some (.ref f_sums_of)))
    (l_sums_of : K.lookup f_sums_of = some ⟨oc_sums_of, od_sums_of, .func (PySem.W.fnOf "sums_of" "sums_of" (defArgs s_sums_of) (defBody s_sums_of) (defScope s_sums_of) .none kV_sums_of dc_sums_of pm_sums_of an_sums_of cd_sums_of ct_sums_of), sl_sums_of⟩)
    (c_sums_of : PySem.W.codeIn K cd_sums_of "sums_of" = true)
    (k_sums_of : PySem.W.keepIn K (.ref f_sums_of) = true)
    (a_numbers_for : PySem.W.nsIn K mainGlobals "numbers_for" = some (some (.ref f_numbers_for)))
    (l_numbers_for : K.lookup f_numbers_for = some ⟨oc_numbers_for, od_numbers_for, .func (PySem.W.fnOf "numbers_for" "numbers_for" (defArgs s_numbers_for) (defBody s_numbers_for) (defScope s_numbers_for) .none kV_numbers_for dc_numbers_for pm_numbers_for an_numbers_for cd_numbers_for ct_numbers_for), sl_numbers_for⟩)
    (c_numbers_for : PySem.W.codeIn K cd_numbers_for "numbers_for" = true)
    (k_numbers_for : PySem.W.keepIn K (.ref f_numbers_for) = true)
    (a_common_of : PySem.W.nsIn K mainGlobals "common_of" = some (some (.ref f_common_of)))
    (l_common_of : K.lookup f_common_of = some ⟨oc_common_of, od_common_of, .func (PySem.W.fnOf "common_of" "common_of" (defArgs s_common_of) (defBody s_common_of) (defScope s_common_of) .none kV_common_of dc_common_of pm_common_of an_common_of cd_common_of ct_common_of), sl_common_of⟩)
    (c_common_of : PySem.W.codeIn K cd_common_of "common_of" = true)
    (k_common_of : PySem.W.keepIn K (.ref f_common_of) = true)
    (a_enough_for : PySem.W.nsIn K mainGlobals "enough_for" = some (some (.ref f_enough_for)))
    (l_enough_for : K.lookup f_enough_for = some ⟨oc_enough_for, od_enough_for, .func (PySem.W.fnOf "enough_for" "enough_for" (defArgs s_enough_for) (defBody s_enough_for) (defScope s_enough_for) .none kV_enough_for dc_enough_for pm_enough_for an_enough_for cd_enough_for ct_enough_for), sl_enough_for⟩)
    (c_enough_for : PySem.W.codeIn K cd_enough_for "enough_for" = true)
    (k_enough_for : PySem.W.keepIn K (.ref f_enough_for) = true)
    (a_ring_of : PySem.W.nsIn K mainGlobals "ring_of" = some (some (.ref f_ring_of)))
    (l_ring_of : K.lookup f_ring_of = some ⟨oc_ring_of, od_ring_of, .func (PySem.W.fnOf "ring_of" "ring_of" (defArgs s_ring_of) (defBody s_ring_of) (defScope s_ring_of) .none kV_ring_of dc_ring_of pm_ring_of an_ring_of cd_ring_of ct_ring_of), sl_ring_of⟩)
    (c_ring_of : PySem.W.codeIn K cd_ring_of "ring_of" = true)
    (k_ring_of : PySem.W.keepIn K (.ref f_ring_of) = true)
    (a_ring_for : PySem.W.nsIn K mainGlobals "ring_for" = some (some (.ref f_ring_for)))
    (l_ring_for : K.lookup f_ring_for = some ⟨oc_ring_for, od_ring_for, .func (PySem.W.fnOf "ring_for" "ring_for" (defArgs s_ring_for) (defBody s_ring_for) (defScope s_ring_for) .none kV_ring_for dc_ring_for pm_ring_for an_ring_for cd_ring_for ct_ring_for), sl_ring_for⟩)
    (c_ring_for : PySem.W.codeIn K cd_ring_for "ring_for" = true)
    (k_ring_for : PySem.W.keepIn K (.ref f_ring_for) = true)
    (a_law_deck : PySem.W.nsIn K mainGlobals "_law_deck" = some (some (.ref f_law_deck)))
    (l_law_deck : K.lookup f_law_deck = some ⟨oc_law_deck, od_law_deck, .func (PySem.W.fnOf "_law_deck" "_law_deck" (defArgs s_law_deck) (defBody s_law_deck) (defScope s_law_deck) .none kV_law_deck dc_law_deck pm_law_deck an_law_deck cd_law_deck ct_law_deck), sl_law_deck⟩)
    (c_law_deck : PySem.W.codeIn K cd_law_deck "_law_deck" = true)
    (k_law_deck : PySem.W.keepIn K (.ref f_law_deck) = true)
    (a_law_take : PySem.W.nsIn K mainGlobals "_law_take" = some (some (.ref f_law_take)))
    (l_law_take : K.lookup f_law_take = some ⟨oc_law_take, od_law_take, .func (PySem.W.fnOf "_law_take" "_law_take" (defArgs s_law_take) (defBody s_law_take) (defScope s_law_take) .none kV_law_take dc_law_take pm_law_take an_law_take cd_law_take ct_law_take), sl_law_take⟩)
    (c_law_take : PySem.W.codeIn K cd_law_take "_law_take" = true)
    (k_law_take : PySem.W.keepIn K (.ref f_law_take) = true)
    (a_law_pair : PySem.W.nsIn K mainGlobals "_law_pair" = some (some (.ref f_law_pair)))
    (l_law_pair : K.lookup f_law_pair = some ⟨oc_law_pair, od_law_pair, .func (PySem.W.fnOf "_law_pair" "_law_pair" (defArgs s_law_pair) (defBody s_law_pair) (defScope s_law_pair) .none kV_law_pair dc_law_pair pm_law_pair an_law_pair cd_law_pair ct_law_pair), sl_law_pair⟩)
    (c_law_pair : PySem.W.codeIn K cd_law_pair "_law_pair" = true)
    (k_law_pair : PySem.W.keepIn K (.ref f_law_pair) = true)
    (a_law_in_sums : PySem.W.nsIn K mainGlobals "_law_in_sums" = some (some (.ref f_law_in_sums)))
    (l_law_in_sums : K.lookup f_law_in_sums = some ⟨oc_law_in_sums, od_law_in_sums, .func (PySem.W.fnOf "_law_in_sums" "_law_in_sums" (defArgs s_law_in_sums) (defBody s_law_in_sums) (defScope s_law_in_sums) .none kV_law_in_sums dc_law_in_sums pm_law_in_sums an_law_in_sums cd_law_in_sums ct_law_in_sums), sl_law_in_sums⟩)
    (c_law_in_sums : PySem.W.codeIn K cd_law_in_sums "_law_in_sums" = true)
    (k_law_in_sums : PySem.W.keepIn K (.ref f_law_in_sums) = true)
    (a_law_shifted : PySem.W.nsIn K mainGlobals "_law_shifted" = some (some (.ref f_law_shifted)))
    (l_law_shifted : K.lookup f_law_shifted = some ⟨oc_law_shifted, od_law_shifted, .func (PySem.W.fnOf "_law_shifted" "_law_shifted" (defArgs s_law_shifted) (defBody s_law_shifted) (defScope s_law_shifted) .none kV_law_shifted dc_law_shifted pm_law_shifted an_law_shifted cd_law_shifted ct_law_shifted), sl_law_shifted⟩)
    (c_law_shifted : PySem.W.codeIn K cd_law_shifted "_law_shifted" = true)
    (k_law_shifted : PySem.W.keepIn K (.ref f_law_shifted) = true)
    (a_law_numbers : PySem.W.nsIn K mainGlobals "_law_numbers" = some (some (.ref f_law_numbers)))
    (l_law_numbers : K.lookup f_law_numbers = some ⟨oc_law_numbers, od_law_numbers, .func (PySem.W.fnOf "_law_numbers" "_law_numbers" (defArgs s_law_numbers) (defBody s_law_numbers) (defScope s_law_numbers) .none kV_law_numbers dc_law_numbers pm_law_numbers an_law_numbers cd_law_numbers ct_law_numbers), sl_law_numbers⟩)
    (c_law_numbers : PySem.W.codeIn K cd_law_numbers "_law_numbers" = true)
    (k_law_numbers : PySem.W.keepIn K (.ref f_law_numbers) = true)
    (a_law_refusal : PySem.W.nsIn K mainGlobals "_law_refusal" = some (some (.ref f_law_refusal)))
    (l_law_refusal : K.lookup f_law_refusal = some ⟨oc_law_refusal, od_law_refusal, .func (PySem.W.fnOf "_law_refusal" "_law_refusal" (defArgs s_law_refusal) (defBody s_law_refusal) (defScope s_law_refusal) .none kV_law_refusal dc_law_refusal pm_law_refusal an_law_refusal cd_law_refusal ct_law_refusal), sl_law_refusal⟩)
    (c_law_refusal : PySem.W.codeIn K cd_law_refusal "_law_refusal" = true)
    (k_law_refusal : PySem.W.keepIn K (.ref f_law_refusal) = true)
    (a_law_form : PySem.W.nsIn K mainGlobals "_law_form" = some (some (.ref f_law_form)))
    (l_law_form : K.lookup f_law_form = some ⟨oc_law_form, od_law_form, .func (PySem.W.fnOf "_law_form" "_law_form" (defArgs s_law_form) (defBody s_law_form) (defScope s_law_form) .none kV_law_form dc_law_form pm_law_form an_law_form cd_law_form ct_law_form), sl_law_form⟩)
    (c_law_form : PySem.W.codeIn K cd_law_form "_law_form" = true)
    (k_law_form : PySem.W.keepIn K (.ref f_law_form) = true)
    (a_law : PySem.W.nsIn K mainGlobals "law" = some (some (.ref f_law)))
    (l_law : K.lookup f_law = some ⟨oc_law, od_law, .func (PySem.W.fnOf "law" "law" (defArgs s_law) (defBody s_law) (defScope s_law) .none kV_law dc_law pm_law an_law cd_law ct_law), sl_law⟩)
    (c_law : PySem.W.codeIn K cd_law "law" = true)
    (k_law : PySem.W.keepIn K (.ref f_law) = true)
    (gS : PySem.W.nsIn K mainGlobals "super" = some none)
    (opq : PySem.W.nsIn K PySem.cStatics "thirdparty.any" = some none)
    (gC_InvalidKind : PySem.W.nsIn K mainGlobals "InvalidKind" = some (some (.ref C_InvalidKind)))
    (xL_InvalidKind : K.lookup C_InvalidKind = some (excClassObj nm_InvalidKind q_InvalidKind C_InvalidKind N_InvalidKind bs_InvalidKind bm_InvalidKind true sn_InvalidKind sub_InvalidKind ab_InvalidKind col_InvalidKind dd_InvalidKind k0_InvalidKind k1_InvalidKind k2_InvalidKind k3_InvalidKind k5_InvalidKind "ValueError.__new__"))
    (bm_ok_InvalidKind : PySem.HandSPX.refsVE bm_InvalidKind = true)
    (xi_InvalidKind : PySem.W.excInitIn K C_InvalidKind PySem.HandSPX.veTail "ValueError.__new__" = true)
    (sa_InvalidKind : PySem.W.findIn K (.ref C_InvalidKind) "__setattr__" = some (some (.builtin "object.__setattr__")))
    (ga_InvalidKind : PySem.W.findIn K (.ref C_InvalidKind) "__getattribute__" = some (some (.builtin "BaseException.__getattribute__")))
    (gg_InvalidKind : PySem.W.findIn K (.ref C_InvalidKind) "__getattr__" = some none)
    (nb_InvalidKind : PySem.W.findIn K (.ref C_InvalidKind) "what" = some none)
    (iC_InvalidKind : PySem.W.findIn K (.ref C_InvalidKind) "__init__" = some (some (.ref I_InvalidKind)))
    (tI_InvalidKind : PySem.W.typeIn K (.ref I_InvalidKind) = some (.type "function"))
    (kC_InvalidKind : PySem.W.keepIn K (.ref C_InvalidKind) = true)
    (eC_InvalidKind : PySem.W.subIn K (.ref C_InvalidKind) (.type "BaseException") = some true)
    (eV_InvalidKind : PySem.W.subIn K (.ref C_InvalidKind) (.type "ValueError") = some true)
    (sf_InvalidKind : PySem.W.mroIn K C_InvalidKind (.ref C_InvalidKind) = some true)
    (tC_InvalidKind : PySem.W.typeIn K (.ref C_InvalidKind) = some (.type "type"))
    (hC_InvalidKind : PySem.W.hasDictIn K C_InvalidKind = true)
    (su_InvalidKind : PySem.W.ks_superIn K C_InvalidKind C_InvalidKind "__init__" = some (some (.builtin "ValueError.__init__")))
    (lI_InvalidKind : K.lookup I_InvalidKind = some ⟨oc_InvalidKind, od_InvalidKind, .func (PySem.W.ksFn "__init__" qual_InvalidKind (defArgs (initOf (top 2))) (defBody (initOf (top 2))) (defScope (initOf (top 2))) .none .none doc_InvalidKind pm_InvalidKind an_InvalidKind (.ref cda_InvalidKind) ct_InvalidKind cc_InvalidKind), osl_InvalidKind⟩)
    (cI_InvalidKind : PySem.W.codeIn K (.ref cda_InvalidKind) qual_InvalidKind = true)
    (lc_InvalidKind : K.lookup cda_InvalidKind = some ⟨ccl_InvalidKind, cdd_InvalidKind, .fields vs_InvalidKind, ccs_InvalidKind⟩)
    (v2_InvalidKind : vs_InvalidKind[2]? = some (.str file_InvalidKind tf_InvalidKind))
    (fl_InvalidKind : ((P.main.file : Str) == file_InvalidKind) = true)
    (ll_InvalidKind : K.lookup cc_InvalidKind = some ⟨cl_InvalidKind, cld_InvalidKind, .cell (some (.ref C_InvalidKind)), csl_InvalidKind⟩)
    (is_InvalidKind : PySem.W.isClsIn K C_InvalidKind = true)
    (ss_InvalidKind : PySem.W.subIn K (.ref C_InvalidKind) (.ref C_InvalidKind) = some true)
    (tp : (P.main.scope.names.lookup ("super" : Str)).isSome = false)
    (at_STEPS : PySem.W.nsIn K mainGlobals "STEPS" = some (some (.ref t_STEPS)))
    (lt_STEPS : K.lookup t_STEPS = some ⟨.type "dict", none, .dict es_STEPS n_STEPS, #[]⟩)
    (kl_STEPS : PySem.W.KeysLit w.params es_STEPS.toList)
    (kb_STEPS : keysB es_STEPS.toList (d_STEPS.map Prod.fst) = true)
    (ke_STEPS_0 : PySem.W.nsIn K t_STEPS "a" = some (some (.ref t_STEPS_0)))
    (kt_STEPS_0 : K.lookup t_STEPS_0 = some ⟨.type "tuple", none, .seq its_STEPS_0 n_STEPS_0, slt_STEPS_0⟩)
    (ka_STEPS_0 : atomsB its_STEPS_0.toList [(.int 1), (.int 0)] = true)
    (kz_STEPS_0 : decide (its_STEPS_0.size ≤ 16777216) = true)
    (ke_STEPS_1 : PySem.W.nsIn K t_STEPS "A" = some (some (.ref t_STEPS_1)))
    (kt_STEPS_1 : K.lookup t_STEPS_1 = some ⟨.type "tuple", none, .seq its_STEPS_1 n_STEPS_1, slt_STEPS_1⟩)
    (ka_STEPS_1 : atomsB its_STEPS_1.toList [(.int (-1)), (.int 0)] = true)
    (kz_STEPS_1 : decide (its_STEPS_1.size ≤ 16777216) = true)
    (ke_STEPS_2 : PySem.W.nsIn K t_STEPS "b" = some (some (.ref t_STEPS_2)))
    (kt_STEPS_2 : K.lookup t_STEPS_2 = some ⟨.type "tuple", none, .seq its_STEPS_2 n_STEPS_2, slt_STEPS_2⟩)
    (ka_STEPS_2 : atomsB its_STEPS_2.toList [(.int 0), (.int 1)] = true)
    (kz_STEPS_2 : decide (its_STEPS_2.size ≤ 16777216) = true)
    (ke_STEPS_3 : PySem.W.nsIn K t_STEPS "B" = some (some (.ref t_STEPS_3)))
    (kt_STEPS_3 : K.lookup t_STEPS_3 = some ⟨.type "tuple", none, .seq its_STEPS_3 n_STEPS_3, slt_STEPS_3⟩)
    (ka_STEPS_3 : atomsB its_STEPS_3.toList [(.int 0), (.int (-1))] = true)
    (kz_STEPS_3 : decide (its_STEPS_3.size ≤ 16777216) = true)
    (hm : ∀ ns : List Int, ns.length ≤ 63 → ∃ cs, F_law [.va (.lsx (ns.map D.int))] = .ok (.bl true) cs) :
    ∃ fd : FuncData, (∀ (s : Shared) (v : Value), BindsTo s fd ⟨[v], []⟩ [("script", v)]) ∧ ∀ base : Heap, K.In base → base.Ns mainGlobals mg → FnOk P w K mg base (L2.CX P w) 7 fa fd ["script"] (spTop K) := by
  have e := hfa.symm.trans (PySem.W.mg_of X G a_law)
  cases e
  have T : Tx P w K mg ⟨f_is_whole_number, f_check_pairs, f_pair_of, f_scaled, f_less, f_cleared, f_form_of, f_sums_of, f_numbers_for, f_common_of, f_enough_for, f_ring_of, f_ring_for, f_law_deck, f_law_take, f_law_pair, f_law_in_sums, f_law_shifted, f_law_numbers, f_law_refusal, f_law_form, fa, C_InvalidKind, I_InvalidKind, t_STEPS⟩ := {
    z_abs := PySem.W.mg_none_of X G z_abs
    z_bool := PySem.W.mg_none_of X G z_bool
    z_enumerate := PySem.W.mg_none_of X G z_enumerate
    z_int := PySem.W.mg_none_of X G z_int
    z_isinstance := PySem.W.mg_none_of X G z_isinstance
    z_len := PySem.W.mg_none_of X G z_len
    z_list := PySem.W.mg_none_of X G z_list
    z_max := PySem.W.mg_none_of X G z_max
    z_min := PySem.W.mg_none_of X G z_min
    z_range := PySem.W.mg_none_of X G z_range
    z_sum := PySem.W.mg_none_of X G z_sum
    z_tuple := PySem.W.mg_none_of X G z_tuple
    z_zip := PySem.W.mg_none_of X G z_zip
    g_is_whole_number := PySem.W.mg_of X G a_is_whole_number
    d_is_whole_number := ⟨_, fun_mk (st := s_is_whole_number) l_is_whole_number c_is_whole_number k_is_whole_number, (fun_mk (st := s_is_whole_number) l_is_whole_number c_is_whole_number k_is_whole_number).binds (ps := P_is_whole_number) fun _ _ _ _ _ _ us hl => match us, hl with | [_], _ => rfl⟩
    g_check_pairs := PySem.W.mg_of X G a_check_pairs
    d_check_pairs := ⟨_, fun_mk (st := s_check_pairs) l_check_pairs c_check_pairs k_check_pairs, (fun_mk (st := s_check_pairs) l_check_pairs c_check_pairs k_check_pairs).binds (ps := P_check_pairs) fun _ _ _ _ _ _ us hl => match us, hl with | [_], _ => rfl⟩
    g_pair_of := PySem.W.mg_of X G a_pair_of
    d_pair_of := ⟨_, fun_mk (st := s_pair_of) l_pair_of c_pair_of k_pair_of, (fun_mk (st := s_pair_of) l_pair_of c_pair_of k_pair_of).binds (ps := P_pair_of) fun _ _ _ _ _ _ us hl => match us, hl with | [_], _ => rfl⟩
    g_scaled := PySem.W.mg_of X G a_scaled
    d_scaled := ⟨_, fun_mk (st := s_scaled) l_scaled c_scaled k_scaled, (fun_mk (st := s_scaled) l_scaled c_scaled k_scaled).binds (ps := P_scaled) fun _ _ _ _ _ _ us hl => match us, hl with | [_, _], _ => rfl⟩
    g_less := PySem.W.mg_of X G a_less
    d_less := ⟨_, fun_mk (st := s_less) l_less c_less k_less, (fun_mk (st := s_less) l_less c_less k_less).binds (ps := P_less) fun _ _ _ _ _ _ us hl => match us, hl with | [_, _], _ => rfl⟩
    g_cleared := PySem.W.mg_of X G a_cleared
    d_cleared := ⟨_, fun_mk (st := s_cleared) l_cleared c_cleared k_cleared, (fun_mk (st := s_cleared) l_cleared c_cleared k_cleared).binds (ps := P_cleared) fun _ _ _ _ _ _ us hl => match us, hl with | [_, _], _ => rfl⟩
    g_form_of := PySem.W.mg_of X G a_form_of
    d_form_of := ⟨_, fun_mk (st := s_form_of) l_form_of c_form_of k_form_of, (fun_mk (st := s_form_of) l_form_of c_form_of k_form_of).binds (ps := P_form_of) fun _ _ _ _ _ _ us hl => match us, hl with | [_], _ => rfl⟩
    g_sums_of := PySem.W.mg_of X G a_sums_of
    d_sums_of := ⟨_, fun_mk (st := s_sums_of) l_sums_of c_sums_of k_sums_of, (fun_mk (st := s_sums_of) l_sums_of c_sums_of k_sums_of).binds (ps := P_sums_of) fun _ _ _ _ _ _ us hl => match us, hl with | [_], _ => rfl⟩
    g_numbers_for := PySem.W.mg_of X G a_numbers_for
    d_numbers_for := ⟨_, fun_mk (st := s_numbers_for) l_numbers_for c_numbers_for k_numbers_for, (fun_mk (st := s_numbers_for) l_numbers_for c_numbers_for k_numbers_for).binds (ps := P_numbers_for) fun _ _ _ _ _ _ us hl => match us, hl with | [_, _], _ => rfl⟩
    g_common_of := PySem.W.mg_of X G a_common_of
    d_common_of := ⟨_, fun_mk (st := s_common_of) l_common_of c_common_of k_common_of, (fun_mk (st := s_common_of) l_common_of c_common_of k_common_of).binds (ps := P_common_of) fun _ _ _ _ _ _ us hl => match us, hl with | [_, _], _ => rfl⟩
    g_enough_for := PySem.W.mg_of X G a_enough_for
    d_enough_for := ⟨_, fun_mk (st := s_enough_for) l_enough_for c_enough_for k_enough_for, (fun_mk (st := s_enough_for) l_enough_for c_enough_for k_enough_for).binds (ps := P_enough_for) fun _ _ _ _ _ _ us hl => match us, hl with | [_, _], _ => rfl⟩
    g_ring_of := PySem.W.mg_of X G a_ring_of
    d_ring_of := ⟨_, fun_mk (st := s_ring_of) l_ring_of c_ring_of k_ring_of, (fun_mk (st := s_ring_of) l_ring_of c_ring_of k_ring_of).binds (ps := P_ring_of) fun _ _ _ _ _ _ us hl => match us, hl with | [_], _ => rfl⟩
    g_ring_for := PySem.W.mg_of X G a_ring_for
    d_ring_for := ⟨_, fun_mk (st := s_ring_for) l_ring_for c_ring_for k_ring_for, (fun_mk (st := s_ring_for) l_ring_for c_ring_for k_ring_for).binds (ps := P_ring_for) fun _ _ _ _ _ _ us hl => match us, hl with | [_, _], _ => rfl⟩
    g_law_deck := PySem.W.mg_of X G a_law_deck
    d_law_deck := ⟨_, fun_mk (st := s_law_deck) l_law_deck c_law_deck k_law_deck, (fun_mk (st := s_law_deck) l_law_deck c_law_deck k_law_deck).binds (ps := P_law_deck) fun _ _ _ _ _ _ us hl => match us, hl with | [_, _, _], _ => rfl⟩
    g_law_take := PySem.W.mg_of X G a_law_take
    d_law_take := ⟨_, fun_mk (st := s_law_take) l_law_take c_law_take k_law_take, (fun_mk (st := s_law_take) l_law_take c_law_take k_law_take).binds (ps := P_law_take) fun _ _ _ _ _ _ us hl => match us, hl with | [_, _], _ => rfl⟩
    g_law_pair := PySem.W.mg_of X G a_law_pair
    d_law_pair := ⟨_, fun_mk (st := s_law_pair) l_law_pair c_law_pair k_law_pair, (fun_mk (st := s_law_pair) l_law_pair c_law_pair k_law_pair).binds (ps := P_law_pair) fun _ _ _ _ _ _ us hl => match us, hl with | [_], _ => rfl⟩
    g_law_in_sums := PySem.W.mg_of X G a_law_in_sums
    d_law_in_sums := ⟨_, fun_mk (st := s_law_in_sums) l_law_in_sums c_law_in_sums k_law_in_sums, (fun_mk (st := s_law_in_sums) l_law_in_sums c_law_in_sums k_law_in_sums).binds (ps := P_law_in_sums) fun _ _ _ _ _ _ us hl => match us, hl with | [_, _], _ => rfl⟩
    g_law_shifted := PySem.W.mg_of X G a_law_shifted
    d_law_shifted := ⟨_, fun_mk (st := s_law_shifted) l_law_shifted c_law_shifted k_law_shifted, (fun_mk (st := s_law_shifted) l_law_shifted c_law_shifted k_law_shifted).binds (ps := P_law_shifted) fun _ _ _ _ _ _ us hl => match us, hl with | [_, _, _], _ => rfl⟩
    g_law_numbers := PySem.W.mg_of X G a_law_numbers
    d_law_numbers := ⟨_, fun_mk (st := s_law_numbers) l_law_numbers c_law_numbers k_law_numbers, (fun_mk (st := s_law_numbers) l_law_numbers c_law_numbers k_law_numbers).binds (ps := P_law_numbers) fun _ _ _ _ _ _ us hl => match us, hl with | [_, _], _ => rfl⟩
    g_law_refusal := PySem.W.mg_of X G a_law_refusal
    d_law_refusal := ⟨_, fun_mk (st := s_law_refusal) l_law_refusal c_law_refusal k_law_refusal, (fun_mk (st := s_law_refusal) l_law_refusal c_law_refusal k_law_refusal).binds (ps := P_law_refusal) fun _ _ _ _ _ _ us hl => match us, hl with | [_], _ => rfl⟩
    g_law_form := PySem.W.mg_of X G a_law_form
    d_law_form := ⟨_, fun_mk (st := s_law_form) l_law_form c_law_form k_law_form, (fun_mk (st := s_law_form) l_law_form c_law_form k_law_form).binds (ps := P_law_form) fun _ _ _ _ _ _ us hl => match us, hl with | [_], _ => rfl⟩
    g_law := PySem.W.mg_of X G a_law
    d_law := ⟨_, fun_mk (st := s_law) l_law c_law k_law, (fun_mk (st := s_law) l_law c_law k_law).binds (ps := P_law) fun _ _ _ _ _ _ us hl => match us, hl with | [_], _ => rfl⟩
    x_InvalidKind := ⟨PySem.W.mg_of X G gC_InvalidKind, ⟨_, _, _, _, _, _, _, _, _, _, _, _, _, _, _, xL_InvalidKind, bm_ok_InvalidKind⟩, xi_InvalidKind, sa_InvalidKind, ga_InvalidKind, gg_InvalidKind, nb_InvalidKind, iC_InvalidKind, tI_InvalidKind, kC_InvalidKind, eC_InvalidKind, eV_InvalidKind, sf_InvalidKind, tC_InvalidKind, hC_InvalidKind, su_InvalidKind, PySem.W.mg_none_of X G gS, opq, tp,
      ⟨_, _, _, _, _, _, _, _, _, _, ⟨_, _, _, _⟩, ⟨_, _, _, _⟩, ⟨_, _, _, _⟩, ⟨_, _, _, _⟩, ⟨_, _, _, _⟩, ⟨_, _, _, _⟩, ⟨_, _, _, _⟩, ⟨_, _, _, _⟩, ⟨_, _, _, _⟩, ⟨_, _, _, _⟩, ⟨_, _, _, _⟩, ⟨_, _, _, _⟩, by decide, lI_InvalidKind, cI_InvalidKind, ⟨_, _, _, _, _, _, lc_InvalidKind, v2_InvalidKind, fl_InvalidKind⟩, _, _, _, ll_InvalidKind⟩⟩
    e_InvalidKind := exm_of eC_InvalidKind eC_InvalidKind is_InvalidKind tC_InvalidKind ss_InvalidKind
    t_STEPS := ⟨PySem.W.mg_of X G at_STEPS, ⟨_, _, lt_STEPS, kl_STEPS, kb_STEPS⟩, (KTabOk.cons ke_STEPS_0 (kv_tup kt_STEPS_0 ka_STEPS_0 kz_STEPS_0) (KTabOk.cons ke_STEPS_1 (kv_tup kt_STEPS_1 ka_STEPS_1 kz_STEPS_1) (KTabOk.cons ke_STEPS_2 (kv_tup kt_STEPS_2 ka_STEPS_2 kz_STEPS_2) (KTabOk.cons ke_STEPS_3 (kv_tup kt_STEPS_3 ka_STEPS_3 kz_STEPS_3) KTabOk.nil))))⟩
  }
  exact ⟨PySem.W.fnOf "law" "law" (defArgs s_law) (defBody s_law) (defScope s_law) .none kV_law dc_law pm_law an_law cd_law ct_law, fun s v => .of_eq rfl, fun base _ _ => (fn_law T (fun_mk (st := s_law) l_law c_law k_law)).imp fun vs H Q E h => spTop_of hm vs H Q E h⟩
end K77
end KL
/-! k77: sums of pairs, as plain mathematics. -/
namespace KL
namespace K77
/-- (x, y) is a sum of pairs of S, each any number of times -/
inductive Gen (S : List (Int × Int)) : Int → Int → Prop
  | zero : Gen S 0 0
  | add {p : Int × Int} (h : p ∈ S) (k : Int) {x y : Int} (g : Gen S x y) : Gen S (x + k * p.1) (y + k * p.2)
theorem Gen.cast {S : List (Int × Int)} {x y x' y' : Int} (g : Gen S x y) (h1 : x = x') (h2 : y = y') : Gen S x' y' := by subst h1 h2; exact g
theorem Gen.mul {S : List (Int × Int)} {p : Int × Int} (h : p ∈ S) (k : Int) : Gen S (k * p.1) (k * p.2) := (Gen.add h k .zero).cast (by omega) (by omega)
theorem Gen.mem {S : List (Int × Int)} {p : Int × Int} (h : p ∈ S) : Gen S p.1 p.2 := (Gen.mul h 1).cast (by omega) (by omega)
theorem Gen.plus {S : List (Int × Int)} {x y x' y' : Int} (g : Gen S x y) (g' : Gen S x' y') : Gen S (x + x') (y + y') := by
  induction g' with
  | zero => exact g.cast (by omega) (by omega)
  | add h k _ ih => exact (Gen.add h k ih).cast (by omega) (by omega)
theorem Gen.times {S : List (Int × Int)} {x y : Int} (m : Int) (g : Gen S x y) : Gen S (m * x) (m * y) := by
  induction g with
  | zero => exact Gen.zero.cast (by omega) (by omega)
  | add h k _ ih => exact (Gen.add h (m * k) ih).cast (by rw [Int.mul_add, Int.mul_assoc]) (by rw [Int.mul_add, Int.mul_assoc])
theorem Gen.minus {S : List (Int × Int)} {x y x' y' : Int} (g : Gen S x y) (g' : Gen S x' y') : Gen S (x - x') (y - y') := (g.plus (g'.times (-1))).cast (by omega) (by omega)
theorem Gen.neg {S : List (Int × Int)} {x y : Int} (g : Gen S x y) : Gen S (-x) (-y) := (g.times (-1)).cast (by omega) (by omega)
/-- a step of clearing -/
theorem Gen.less {S : List (Int × Int)} {x y x' y' : Int} (q : Int) (g : Gen S x y) (g' : Gen S x' y') : Gen S (x - x' * q) (y - y' * q) := (g.minus (g'.times q)).cast (by rw [Int.mul_comm]) (by rw [Int.mul_comm])
theorem Gen.unless {S : List (Int × Int)} {x y x' y' : Int} (q : Int) (g : Gen S (x - x' * q) (y - y' * q)) (g' : Gen S x' y') : Gen S x y :=
  (g.plus (g'.times q)).cast (by rw [Int.mul_comm q x']; omega) (by rw [Int.mul_comm q y']; omega)
theorem Gen.of {S T : List (Int × Int)} {x y : Int} (h : ∀ p ∈ S, Gen T p.1 p.2) (g : Gen S x y) : Gen T x y := by
  induction g with
  | zero => exact .zero
  | add hp k _ ih => exact ih.plus ((h _ hp).times k)
/-- the same sums -/
def Same (S T : List (Int × Int)) : Prop := (∀ p ∈ S, Gen T p.1 p.2) ∧ ∀ p ∈ T, Gen S p.1 p.2
theorem Same.refl (S : List (Int × Int)) : Same S S := ⟨fun p h => .mem h, fun p h => .mem h⟩
theorem Same.symm {S T : List (Int × Int)} (h : Same S T) : Same T S := ⟨h.2, h.1⟩
theorem Same.trans {S T U : List (Int × Int)} (h : Same S T) (h' : Same T U) : Same S U := ⟨fun p hp => (h.1 p hp).of h'.1, fun p hp => (h'.2 p hp).of h.2⟩
theorem Same.iff {S T : List (Int × Int)} (h : Same S T) {x y : Int} : Gen S x y ↔ Gen T x y := ⟨Gen.of h.1, Gen.of h.2⟩
/-- no pairs -/
theorem gen_nil {x y : Int} : Gen [] x y ↔ x = 0 ∧ y = 0 := by
  refine ⟨fun g => ?_, fun h => by obtain ⟨rfl, rfl⟩ := h; exact .zero⟩
  cases g with
  | zero => exact ⟨rfl, rfl⟩
  | add h _ _ => cases h
/-- one pair -/
theorem gen_one {a b x y : Int} : Gen [(a, b)] x y ↔ ∃ k, x = k * a ∧ y = k * b := by
  refine ⟨fun g => ?_, fun ⟨k, h1, h2⟩ => (Gen.mul (p := (a, b)) (by simp) k).cast h1.symm h2.symm⟩
  induction g with
  | zero => exact ⟨0, by omega, by omega⟩
  | add h k _ ih =>
    obtain ⟨m, h1, h2⟩ := ih
    have : ‹Int × Int› = (a, b) := by simpa using h
    subst this
    exact ⟨m + k, by rw [Int.add_mul, ← h1], by rw [Int.add_mul, ← h2]⟩
/-- two pairs -/
theorem gen_two {a b c d x y : Int} : Gen [(a, b), (c, d)] x y ↔ ∃ k m, x = k * a + m * c ∧ y = k * b + m * d := by
  refine ⟨fun g => ?_, fun ⟨k, m, h1, h2⟩ => ((Gen.mul (p := (a, b)) (by simp) k).plus (Gen.mul (p := (c, d)) (by simp) m)).cast h1.symm h2.symm⟩
  induction g with
  | zero => exact ⟨0, 0, by omega, by omega⟩
  | @add p h k x y _ ih =>
    obtain ⟨n, m, h1, h2⟩ := ih
    have : p = (a, b) ∨ p = (c, d) := by simpa using h
    rcases this with rfl | rfl
    · refine ⟨n + k, m, ?_, ?_⟩
      · rw [h1, Int.add_mul]; show n * a + m * c + k * a = _; omega
      · rw [h2, Int.add_mul]; show n * b + m * d + k * b = _; omega
    · refine ⟨n, m + k, ?_, ?_⟩
      · rw [h1, Int.add_mul]; show n * a + m * c + k * c = _; omega
      · rw [h2, Int.add_mul]; show n * b + m * d + k * d = _; omega
end K77
end KL
/-! k77: what the program's functions compute. -/
namespace KL
namespace K77
open PySem L2
abbrev row (r : List Int) : D := .lst (r.map D.int)
/-- all of r lies below 2 ^ n -/
def Sz (n : Nat) (r : List Int) : Prop := ∀ a ∈ r, a.natAbs < 2 ^ n
theorem Sz.mono {n m : Nat} {r : List Int} (h : Sz n r) (hm : n ≤ m) : Sz m r := fun a ha => Nat.lt_of_lt_of_le (h a ha) (Nat.pow_le_pow_right (by omega) hm)
theorem scaled_ok {n k : Nat} {r : List Int} {q : Int} (hl : r.length < 1000) (hr : Sz n r) (hq : q.natAbs < 2 ^ k) (hnk : n + k ≤ 100000) : F_scaled [.va (row r), .va (.int q)] = .fr ((r.map (· * q)).map D.int) [.no, .no] := by
  have e : lcM [2] (seqA (varM 0)) (tgN 2) (cst true) (opV mulG 2 (varR 1)) [.va (row r), .va (.int q), .no] = .ok ((r.map D.int).map fun d => match d with | .int a => .int (a * q) | d => d) [.va (row r), .va (.int q), .no] := by
    refine lcM_map (seqA_lst rfl) (by rw [List.length_map]; omega) rfl fun x hx => ?_
    obtain ⟨a, ha, rfl⟩ := List.mem_map.mp hx
    exact ⟨[.va (row r), .va (.int q), .va (.int a)], [.va (row r), .va (.int q), .va (.int a)], rfl, opV_ok rfl rfl (mulG_int (hr a ha) hq (by omega)), rfl⟩
  unfold F_scaled
  rw [bodyF_]
  show (m_scaled [.va (row r), .va (.int q), .no]).fin 2 = _
  unfold m_scaled
  rw [retFS_ok e, List.map_map, List.map_map]
  show FRes.fr _ (kpD 2 _) = _
  rw [kpD_map (by show 2 ≤ 3; omega)]
  rfl
def subT : D → D := fun d => match d with | .tup [.int a, .int b] => .int (a - b) | d => d
theorem zip_sub : ∀ (r s : List Int), (zipL (r.map D.int) (s.map D.int)).map subT = (List.zipWith (· - ·) r s).map D.int
  | [], _ => rfl
  | _ :: _, [] => rfl
  | a :: r, b :: s => by
    have := zip_sub r s
    show D.int (a - b) :: (zipL (r.map D.int) (s.map D.int)).map subT = D.int (a - b) :: (List.zipWith (· - ·) r s).map D.int
    rw [this]
theorem less_ok {r s : List Int} (hl : r.length < 1000) (hs : s.length = r.length) : F_less [.va (row r), .va (row s)] = .fr ((List.zipWith (· - ·) r s).map D.int) [.no, .no] := by
  have e : lcM [2, 3] (opM zipD (varM 0) (varM 1)) (tgT 2 (tgsCons (tgN 2) (tgsCons (tgN 3) tgsNil))) (cst true) (opV subD 2 (varR 3)) [.va (row r), .va (row s), .no, .no] =
      .ok ((zipL (r.map D.int) (s.map D.int)).map subT) [.va (row r), .va (row s), .no, .no] := by
    refine lcM_map (opM_ok rfl rfl rfl) (by unfold zipL; rw [List.length_map, List.length_zip, List.length_map, List.length_map]; omega) rfl fun x hx => ?_
    obtain ⟨z, hz, rfl⟩ := List.mem_map.mp hx
    obtain ⟨h1, h2⟩ := List.of_mem_zip (a := z.1) (b := z.2) hz
    obtain ⟨a, ha, e1⟩ := List.mem_map.mp h1
    obtain ⟨b, hb, e2⟩ := List.mem_map.mp h2
    rw [← e1, ← e2]
    exact ⟨[.va (row r), .va (row s), .va (.int a), .va (.int b)], [.va (row r), .va (row s), .va (.int a), .va (.int b)], rfl, opV_ok rfl rfl rfl, rfl⟩
  unfold F_less
  rw [bodyF_]
  show (m_less [.va (row r), .va (row s), .no, .no]).fin 2 = _
  unfold m_less
  rw [retFS_ok e]
  rw [zip_sub r s]
  show FRes.fr _ (kpD 2 _) = _
  rw [kpD_map (by show 2 ≤ 4; omega)]
  rfl
end K77
end KL
set_option exponentiation.threshold 100000
/-! k77: the least of pairs; cleared. -/
namespace KL
namespace K77
open PySem L2
/-! ### min of pairs -/
abbrev pr (q : Int × Int) : D := .tup [.int q.1, .int q.2]
def ltP (y a : Int × Int) : Bool := decide (y.1 < a.1 ∨ (y.1 = a.1 ∧ y.2 < a.2))
theorem pyLt_pr (y a : Int × Int) : pyLt (pr y) (pr a) = ltP y a := by
  unfold pyLt ltP
  exact PySem.W.dataLt_ii _ _ _ _
def bestP (l : List (Int × Int)) (z : Int × Int) : Int × Int := l.foldl (fun a y => if ltP y a = true then y else a) z
theorem bestP_prop : ∀ (l : List (Int × Int)) (z : Int × Int), (bestP l z = z ∨ bestP l z ∈ l) ∧ (bestP l z).1 ≤ z.1 ∧ ∀ y ∈ l, (bestP l z).1 ≤ y.1
  | [], z => ⟨.inl rfl, Int.le_refl _, fun y hy => by cases hy⟩
  | x :: l, z => by
    have e : bestP (x :: l) z = bestP l (if ltP x z = true then x else z) := rfl
    rw [e]
    by_cases h : ltP x z = true
    · rw [if_pos h]
      obtain ⟨h1, h2, h3⟩ := bestP_prop l x
      have hx : x.1 ≤ z.1 := by
        have h := of_decide_eq_true h
        omega
      refine ⟨.inr ?_, by omega, fun y hy => ?_⟩
      · rcases h1 with h1 | h1
        · rw [h1]; simp
        · exact List.mem_cons_of_mem _ h1
      · rcases List.mem_cons.mp hy with rfl | hy
        · exact h2
        · exact h3 y hy
    · rw [if_neg h]
      obtain ⟨h1, h2, h3⟩ := bestP_prop l z
      have hx : z.1 ≤ x.1 := by
        have h : ¬ (x.1 < z.1 ∨ (x.1 = z.1 ∧ x.2 < z.2)) := fun q => h (decide_eq_true q)
        omega
      refine ⟨?_, h2, fun y hy => ?_⟩
      · rcases h1 with h1 | h1
        · exact .inl h1
        · exact .inr (List.mem_cons_of_mem _ h1)
      · rcases List.mem_cons.mp hy with rfl | hy
        · omega
        · exact h3 y hy
theorem bestP_fold : ∀ (l : List (Int × Int)) (z : Int × Int), (l.map pr).foldl (fun a y => if pyLt y a = true then y else a) (pr z) = pr (bestP l z)
  | [], _ => rfl
  | x :: l, z => by
    show (l.map pr).foldl _ (if pyLt (pr x) (pr z) = true then pr x else pr z) = _
    rw [pyLt_pr]
    have e : (if ltP x z = true then pr x else pr z) = pr (if ltP x z = true then x else z) := by split <;> rfl
    rw [e, bestP_fold l]
    rfl
theorem okL_pr (l : List (Int × Int)) : okL (l.map pr) = true := by
  unfold okL
  rw [List.all_eq_true]
  intro d hd
  obtain ⟨q, _, rfl⟩ := List.mem_map.mp hd
  have h1 : toPy (pr q) = some (.tuple [.int q.1, .int q.2]) := by simp [toPy, toPys]
  have h2 : pyOf (pr q) = .tuple [.int q.1, .int q.2] := by unfold pyOf; rw [h1]; rfl
  have h3 : (PyData.tuple [.int q.1, .int q.2]).depth ≤ 60 := by simp [PyData.depth, PyData.depthAll]
  rw [h2, h1, decide_eq_true h3]
  show (List.map pr l).all _ = true
  rw [List.all_eq_true]
  intro e he
  obtain ⟨q', _, rfl⟩ := List.mem_map.mp he
  have h4 : pyOf (pr q') = .tuple [.int q'.1, .int q'.2] := by unfold pyOf; rw [show toPy (pr q') = some (.tuple [.int q'.1, .int q'.2]) by simp [toPy, toPys]]; rfl
  rw [h4]
  simp [PySem.W.alike, PySem.W.alikeAll]
theorem minD_pr {l : List (Int × Int)} (h : l ≠ []) : ∃ m ∈ l, minD (.lst (l.map pr)) = some (pr m) ∧ ∀ y ∈ l, m.1 ≤ y.1 := by
  cases l with
  | nil => exact absurd rfl h
  | cons z l =>
    obtain ⟨h1, h2, h3⟩ := bestP_prop l z
    refine ⟨bestP l z, ?_, ?_, fun y hy => ?_⟩
    · rcases h1 with h1 | h1
      · rw [h1]; simp
      · exact List.mem_cons_of_mem _ h1
    · show (if okL (pr z :: l.map pr) = true then some ((l.map pr).foldl (fun a y => if pyLt y a then y else a) (pr z)) else none) = _
      rw [if_pos (show okL (pr z :: l.map pr) = true from okL_pr (z :: l)), bestP_fold]
    · rcases List.mem_cons.mp hy with rfl | hy
      · exact h2
      · exact h3 y hy
/-! ### cleared -/
abbrev rowsD (rs : List (List Int)) : List D := rs.map row
/-- what a row has at a place -/
abbrev at_ (p : Nat) (r : List Int) : Int := r.getD p 0
theorem ix_row {r : List Int} {p : Nat} (h : p < r.length) : ixD (row r) (.int (p : Nat)) = some (.int (at_ p r)) := by
  show atI (r.map D.int) (p : Nat) = _
  unfold atI ixN
  rw [if_pos (by omega), if_pos (by rw [List.length_map]; omega)]
  simp [h]
theorem tru_int (i : Int) : truD (.int i) = some (i != 0) := rfl
/-- the rows with something at a place -/
def nz (p : Nat) (rs : List (List Int)) : List (List Int) := rs.filter fun r => at_ p r != 0
/-- the test of the while -/
theorem cond_ok {rs : List (List Int)} {p : Nat} {c0 c2 c3 c4 c5 c6 : Cell} (h0 : c0 = .ow (rowsD rs) ∨ c0 = .va (.lst (rowsD rs))) (hl : rs.length < 1000) (hp : ∀ r ∈ rs, p < r.length) :
    cleared_c1 [c0, .va (.int (p : Nat)), c2, c3, c4, c5, c6, .no, .no] = .ok (decide (1 < (nz p rs).length)) [.va (.lst (rowsD rs)), .va (.int (p : Nat)), c2, c3, c4, c5, c6, .no, .no] := by
  have e0 : seqA (varM 0) [c0, .va (.int (p : Nat)), c2, c3, c4, c5, c6, .no, .no] = .ok (rs.map row) [.va (.lst (rowsD rs)), .va (.int (p : Nat)), c2, c3, c4, c5, c6, .no, .no] := by
    rcases h0 with rfl | rfl <;> rfl
  have e : lcM [8] (seqA (varM 0)) (tgN 8) (truM (opV ixD 8 (varR 1))) (varM 8) [c0, .va (.int (p : Nat)), c2, c3, c4, c5, c6, .no, .no] = .ok ((nz p rs).map row) [.va (.lst (rowsD rs)), .va (.int (p : Nat)), c2, c3, c4, c5, c6, .no, .no] := by
    refine lcM_ft e0 (by omega) rfl fun r hr => ?_
    refine ⟨[.va (.lst (rowsD rs)), .va (.int (p : Nat)), c2, c3, c4, c5, c6, .no, .va (row r)], [.va (.lst (rowsD rs)), .va (.int (p : Nat)), c2, c3, c4, c5, c6, .no, .va (row r)], rfl, truM_ok (opV_ok rfl rfl (ix_row (hp r hr))) rfl, fun _ => ⟨_, rfl, rfl⟩, fun _ => rfl⟩
  unfold cleared_c1
  refine asB_ok (opM_ok (call1_ok (lstE_ok e) lenD_lst) rfl ?_)
  rw [gtG_int, List.length_map]
  congr 2
  exact decide_eq_decide.mpr (by omega)
abbrev gr (rs : List (List Int)) (i : Nat) : List Int := rs.getD i []
theorem enumL_rows (rs : List (List Int)) : enumL (rowsD rs) = (List.range rs.length).map fun i => .tup [.int (i : Nat), row (gr rs i)] := by
  unfold enumL
  rw [List.length_map]
  apply List.map_congr_left
  intro i hi
  have hi : i < rs.length := List.mem_range.mp hi
  have e : (rowsD rs).getD i .non = row (gr rs i) := by
    unfold gr rowsD
    rw [List.getD_eq_getElem?_getD, List.getD_eq_getElem?_getD, List.getElem?_map, List.getElem?_eq_getElem hi]; rfl
  rw [e]
theorem gr_mem {rs : List (List Int)} {i : Nat} (h : i < rs.length) : gr rs i ∈ rs := by
  unfold gr
  rw [List.getD_eq_getElem?_getD, List.getElem?_eq_getElem h]
  exact List.getElem_mem h
/-- a row less so many times another one -/
def vless (r s : List Int) (q : Int) : List Int := List.zipWith (· - ·) r (s.map (· * q))
def others (p : Nat) (rs : List (List Int)) (l : Nat) : List (List Int) := ((List.range rs.length).filter fun i => decide (i ≠ l)).map fun i => vless (gr rs i) (gr rs l) ((at_ p (gr rs i)).fdiv (at_ p (gr rs l)))
theorem abs_int (a : Int) : absD (.int a) = some (.int (a.natAbs : Nat)) := by
  show some (D.int (if a < 0 then -a else a)) = _
  congr 2
  split <;> omega
theorem Sz.at' {n p : Nat} {r : List Int} (h : Sz n r) : (at_ p r).natAbs < 2 ^ n := by
  unfold at_
  rw [List.getD_eq_getElem?_getD]
  cases q : r[p]? with
  | none => exact Nat.pow_pos (by omega)
  | some a => exact h a (List.mem_of_getElem? q)
theorem fdiv_abs {a b : Int} : (a.fdiv b).natAbs ≤ a.natAbs + 1 := by
  have h1 := Int.natAbs_ediv_le_natAbs a b
  rw [Int.fdiv_eq_ediv]
  split <;> omega
theorem ix_rows {rs : List (List Int)} {i : Nat} (h : i < rs.length) : ixD (.lst (rowsD rs)) (.int (i : Nat)) = some (row (gr rs i)) := by
  show atI (rowsD rs) (i : Nat) = _
  unfold atI ixN
  rw [if_pos (by omega), if_pos (by rw [List.length_map]; omega)]
  unfold gr
  rw [List.getD_eq_getElem?_getD, List.getElem?_eq_getElem h]
  simp [h]
theorem can_ {Δ : DEnv} {i : Nat} {c : Cell} (h : Δ[i]? = some c) (hc : canC c = true) : canSet Δ i = true := by rw [canSet_, h]; exact hc
theorem turn_ok {rs : List (List Int)} {p n B : Nat} {c0 c2 c3 c4 c5 c6 : Cell} (h0 : c0 = .ow (rowsD rs) ∨ c0 = .va (.lst (rowsD rs))) (hc : canC c0 = true ∧ canC c2 = true ∧ canC c3 = true ∧ canC c4 = true ∧ canC c5 = true) (hl : rs.length < 1000) (hn : n < 1000) (hp : p < n) (hr : ∀ r ∈ rs, r.length = n)
    (hB : B ≤ 7900) (hs : ∀ r ∈ rs, Sz B r) (hz : nz p rs ≠ []) :
    ∃ l, l < rs.length ∧ at_ p (gr rs l) ≠ 0 ∧ (∀ r ∈ nz p rs, (at_ p (gr rs l)).natAbs ≤ (at_ p r).natAbs) ∧ ∃ d2 d3 d4 d5, (canC d2 = true ∧ canC d3 = true ∧ canC d4 = true ∧ canC d5 = true) ∧
      cleared_b2 [c0, .va (.int (p : Nat)), c2, c3, c4, c5, c6, .no, .no] = .nx [.ow (rowsD (others p rs l ++ [gr rs l])), .va (.int (p : Nat)), d2, d3, d4, d5, c6, .no, .no] := by
  obtain ⟨k0, k2, k3, k4, k5⟩ := hc
  -- the sizes
  have e0 : ∀ {c2 c3 c4 c5 : Cell} {c0 : Cell}, (c0 = .ow (rowsD rs) ∨ c0 = .va (.lst (rowsD rs))) → enumM (varM 0) [c0, .va (.int (p : Nat)), c2, c3, c4, c5, c6, .no, .no] = .ok ((List.range rs.length).map fun i => .tup [.int (i : Nat), row (gr rs i)]) [.va (.lst (rowsD rs)), .va (.int (p : Nat)), c2, c3, c4, c5, c6, .no, .no] := by
    intro c2 c3 c4 c5 c0 h0
    rw [← enumL_rows]
    rcases h0 with rfl | rfl <;> rfl
  have e1 : lcM [7, 8] (enumM (varM 0)) (tgT 2 (tgsCons (tgN 7) (tgsCons (tgN 8) tgsNil))) (truM (opV ixD 8 (varR 1))) (tupM (consM (call1 absD (opV ixD 8 (varR 1))) (consM (varM 7) (cst ([] : List D))))) [c0, .va (.int (p : Nat)), c2, c3, c4, c5, c6, .no, .no] =
      .ok (((List.range rs.length).filter fun i => at_ p (gr rs i) != 0).map fun i => pr (((at_ p (gr rs i)).natAbs : Nat), (i : Nat))) [.va (.lst (rowsD rs)), .va (.int (p : Nat)), c2, c3, c4, c5, c6, .no, .no] := by
    refine lcM_ft (e0 h0) (by rw [List.length_range]; omega) rfl fun i hi => ?_
    have hi : i < rs.length := List.mem_range.mp hi
    have hx := ix_row (r := gr rs i) (p := p) (by rw [hr _ (gr_mem hi)]; exact hp)
    refine ⟨[.va (.lst (rowsD rs)), .va (.int (p : Nat)), c2, c3, c4, c5, c6, .va (.int (i : Nat)), .va (row (gr rs i))], [.va (.lst (rowsD rs)), .va (.int (p : Nat)), c2, c3, c4, c5, c6, .va (.int (i : Nat)), .va (row (gr rs i))], rfl, truM_ok (opV_ok rfl rfl hx) rfl, fun _ => ⟨[.va (.lst (rowsD rs)), .va (.int (p : Nat)), c2, c3, c4, c5, c6, .va (.int (i : Nat)), .va (row (gr rs i))], ?_, rfl⟩, fun _ => rfl⟩
    exact tupM_ok (consM_ok (call1_ok (opV_ok rfl rfl hx) (abs_int _)) (consM_ok rfl rfl)) (by show 2 ≤ 16777216; omega)
  obtain ⟨m, hm, hmin, hle⟩ := minD_pr (l := ((List.range rs.length).filter fun i => at_ p (gr rs i) != 0).map fun i => (((at_ p (gr rs i)).natAbs : Int), ((i : Nat) : Int))) (by
    intro z
    rw [List.map_eq_nil_iff] at z
    apply hz
    unfold nz
    rw [List.filter_eq_nil_iff] at z ⊢
    intro r hrr
    obtain ⟨j, hj, e⟩ := List.mem_iff_getElem.mp hrr
    have := z j (List.mem_range.mpr hj)
    unfold gr at this
    rw [List.getD_eq_getElem?_getD, List.getElem?_eq_getElem hj] at this
    rw [← e]; exact this)
  obtain ⟨l, hlm, rfl⟩ := List.mem_map.mp hm
  obtain ⟨hlr, hl0⟩ := List.mem_filter.mp hlm
  have hll : l < rs.length := List.mem_range.mp hlr
  have hl0 : at_ p (gr rs l) ≠ 0 := by simpa using hl0
  have hlow := gr_mem hll
  have hxl := ix_row (r := gr rs l) (p := p) (by rw [hr _ hlow]; exact hp)
  refine ⟨l, hll, hl0, fun r hrn => ?_, ?_⟩
  · obtain ⟨hr1, hr2⟩ := List.mem_filter.mp hrn
    obtain ⟨j, hj, e⟩ := List.mem_iff_getElem.mp hr1
    have eg : gr rs j = r := by unfold gr; rw [List.getD_eq_getElem?_getD, List.getElem?_eq_getElem hj]; exact e
    have := hle (((at_ p (gr rs j)).natAbs : Int), ((j : Nat) : Int)) (List.mem_map.mpr ⟨j, List.mem_filter.mpr ⟨List.mem_range.mpr hj, by rw [eg]; exact hr2⟩, rfl⟩)
    rw [eg] at this
    exact Int.ofNat_le.mp this
  have hmin : minD (.lst (((List.range rs.length).filter fun i => at_ p (gr rs i) != 0).map fun i => pr (((at_ p (gr rs i)).natAbs : Nat), (i : Nat)))) = some (pr (((at_ p (gr rs l)).natAbs : Int), ((l : Nat) : Int))) := by
    rw [List.map_map] at hmin; exact hmin
  generalize ((List.range rs.length).filter fun i => at_ p (gr rs i) != 0).map (fun i => pr (((at_ p (gr rs i)).natAbs : Nat), (i : Nat))) = sz at e1 hmin
  have e2 : lcM [7, 8] (enumM (varM 0)) (tgT 2 (tgsCons (tgN 7) (tgsCons (tgN 8) tgsNil))) (asB (opV neD 7 (varR 3))) (lstE (callF F_less (aV (varM 8) (aV (lstE (callF F_scaled (aV (varM 4) (aV (opM divG (opV ixD 8 (varR 1)) (opV ixD 4 (varR 1))) (cst ([] : List Arg)))))) (cst ([] : List Arg)))))) [.va (.lst (rowsD rs)), .va (.int (p : Nat)), .ow sz, .va (.int (l : Nat)), .va (row (gr rs l)), c5, c6, .no, .no] =
      .ok (rowsD (others p rs l)) [.va (.lst (rowsD rs)), .va (.int (p : Nat)), .ow sz, .va (.int (l : Nat)), .va (row (gr rs l)), c5, c6, .no, .no] := by
    have eo : rowsD (others p rs l) = ((List.range rs.length).filter fun i => decide (i ≠ l)).map fun i => row (vless (gr rs i) (gr rs l) ((at_ p (gr rs i)).fdiv (at_ p (gr rs l)))) := by
      unfold others rowsD; rw [List.map_map]; rfl
    rw [eo]
    refine lcM_ft (e0 (.inr rfl)) (by rw [List.length_range]; omega) rfl fun i hi => ?_
    have hi : i < rs.length := List.mem_range.mp hi
    have hgi := gr_mem hi
    have hx := ix_row (r := gr rs i) (p := p) (by rw [hr _ hgi]; exact hp)
    refine ⟨[.va (.lst (rowsD rs)), .va (.int (p : Nat)), .ow sz, .va (.int (l : Nat)), .va (row (gr rs l)), c5, c6, .va (.int (i : Nat)), .va (row (gr rs i))], [.va (.lst (rowsD rs)), .va (.int (p : Nat)), .ow sz, .va (.int (l : Nat)), .va (row (gr rs l)), c5, c6, .va (.int (i : Nat)), .va (row (gr rs i))], rfl, ?_, fun _ => ⟨[.va (.lst (rowsD rs)), .va (.int (p : Nat)), .ow sz, .va (.int (l : Nat)), .va (row (gr rs l)), c5, c6, .va (.int (i : Nat)), .va (row (gr rs i))], ?_, rfl⟩, fun _ => rfl⟩
    · refine asB_ok (opV_ok rfl rfl (neD_int.trans ?_))
      congr 2
      rw [← decide_not]
      exact decide_eq_decide.mpr (by omega)
    · have hd : divG (.int (at_ p (gr rs i))) (.int (at_ p (gr rs l))) = some (.int ((at_ p (gr rs i)).fdiv (at_ p (gr rs l)))) := divG_int hl0 (Nat.lt_of_lt_of_le (hs _ hlow).at' (Nat.pow_le_pow_right (by omega) (by omega)))
      have hq : ((at_ p (gr rs i)).fdiv (at_ p (gr rs l))).natAbs < 2 ^ (B + 1) := by
        have h1 := fdiv_abs (a := at_ p (gr rs i)) (b := at_ p (gr rs l))
        have h2 := (hs _ hgi).at' (p := p)
        rw [Nat.pow_succ]; omega
      refine lstE_ok (callV2f rfl (lstE_ok (callV2f rfl (opM_ok (opV_ok rfl rfl hx) (opV_ok rfl rfl hxl) hd) (scaled_ok (by rw [hr _ hlow]; exact hn) (hs _ hlow) hq (by omega)))) (less_ok (s := (gr rs l).map (· * (at_ p (gr rs i)).fdiv (at_ p (gr rs l)))) (by rw [hr _ hgi]; exact hn) (by rw [List.length_map, hr _ hgi, hr _ hlow])))
  refine ⟨.ow sz, .va (.int (l : Nat)), .va (row (gr rs l)), .ow (rowsD (others p rs l)), ⟨rfl, rfl, rfl, rfl⟩, ?_⟩
  unfold cleared_b2
  have s2 : opM ixD (call1 minD (varR 2)) (cst (D.int 1)) [.va (.lst (rowsD rs)), .va (.int (p : Nat)), .ow sz, c3, c4, c5, c6, .no, .no] = .ok (.int (l : Nat)) [.va (.lst (rowsD rs)), .va (.int (p : Nat)), .ow sz, c3, c4, c5, c6, .no, .no] := opM_ok (call1_ok (varR_ok rfl) hmin) rfl rfl
  have s3 : opV ixD 0 (varR 3) [.va (.lst (rowsD rs)), .va (.int (p : Nat)), .ow sz, .va (.int (l : Nat)), c4, c5, c6, .no, .no] = .ok (row (gr rs l)) [.va (.lst (rowsD rs)), .va (.int (p : Nat)), .ow sz, .va (.int (l : Nat)), c4, c5, c6, .no, .no] := opV_ok rfl rfl (ix_rows hll)
  refine (sq_nx (Δ1 := [.va (.lst (rowsD rs)), .va (.int (p : Nat)), .ow sz, c3, c4, c5, c6, .no, .no]) (setOS_ok e1 (can_ (c := c2) rfl k2))).trans ?_
  refine (sq_nx (Δ1 := [.va (.lst (rowsD rs)), .va (.int (p : Nat)), .ow sz, .va (.int (l : Nat)), c4, c5, c6, .no, .no]) (setS_ok s2 (can_ (c := c3) rfl k3))).trans ?_
  refine (sq_nx (Δ1 := [.va (.lst (rowsD rs)), .va (.int (p : Nat)), .ow sz, .va (.int (l : Nat)), .va (row (gr rs l)), c5, c6, .no, .no]) (setS_ok s3 (can_ (c := c4) rfl k4))).trans ?_
  refine (sq_nx (Δ1 := [.va (.lst (rowsD rs)), .va (.int (p : Nat)), .ow sz, .va (.int (l : Nat)), .va (row (gr rs l)), .ow (rowsD (others p rs l)), c6, .no, .no]) (setOS_ok e2 (can_ (c := c5) rfl k5))).trans ?_
  have hcat : catF (.lst (rowsD (others p rs l))) (.lst [row (gr rs l)]) = some (rowsD (others p rs l) ++ [row (gr rs l)]) := by
    refine catF_ok ?_
    show (rowsD (others p rs l)).length + 1 ≤ 16777216
    unfold others rowsD
    rw [List.length_map, List.length_map]
    have := List.length_filter_le (fun i => decide (i ≠ l)) (List.range rs.length)
    rw [List.length_range] at this
    omega
  have s5 : opV catF 5 (lstE (lstM (consM (varM 4) (cst ([] : List D))))) [.va (.lst (rowsD rs)), .va (.int (p : Nat)), .ow sz, .va (.int (l : Nat)), .va (row (gr rs l)), .ow (rowsD (others p rs l)), c6, .no, .no] = .ok (rowsD (others p rs l) ++ [row (gr rs l)]) [.va (.lst (rowsD rs)), .va (.int (p : Nat)), .ow sz, .va (.int (l : Nat)), .va (row (gr rs l)), .ow (rowsD (others p rs l)), c6, .no, .no] :=
    opV_ok rfl (lstE_ok (lstM_ok (consM_ok rfl rfl) (by show 1 ≤ 16777216; omega))) hcat
  refine (setOS_ok s5 rfl).trans ?_
  show SRes.nx [.ow (rowsD (others p rs l) ++ [row (gr rs l)]), _, _, _, _, _, _, _, _] = _
  have e9 : rowsD (others p rs l ++ [gr rs l]) = rowsD (others p rs l) ++ [row (gr rs l)] := by unfold rowsD; rw [List.map_append]; rfl
  rw [e9]
end K77
end KL
/-! k77: what a turn keeps. -/
namespace KL
namespace K77
theorem at_vless {r s : List Int} {q : Int} (h : s.length = r.length) (j : Nat) : at_ j (vless r s q) = at_ j r - at_ j s * q := by
  unfold at_ vless
  rw [List.getD_eq_getElem?_getD, List.getD_eq_getElem?_getD, List.getD_eq_getElem?_getD, List.getElem?_zipWith, List.getElem?_map]
  by_cases hj : j < r.length
  · rw [List.getElem?_eq_getElem hj, List.getElem?_eq_getElem (by omega)]; rfl
  · rw [List.getElem?_eq_none (by omega), List.getElem?_eq_none (by omega)]; simp
theorem vless_len {r s : List Int} {q : Int} (h : s.length = r.length) : (vless r s q).length = r.length := by
  unfold vless; rw [List.length_zipWith, List.length_map]; omega
theorem mem_others {p l : Nat} {rs : List (List Int)} {v : List Int} (h : v ∈ others p rs l) : ∃ i, i < rs.length ∧ i ≠ l ∧ v = vless (gr rs i) (gr rs l) ((at_ p (gr rs i)).fdiv (at_ p (gr rs l))) := by
  obtain ⟨i, hi, rfl⟩ := List.mem_map.mp h
  obtain ⟨h1, h2⟩ := List.mem_filter.mp hi
  exact ⟨i, List.mem_range.mp h1, of_decide_eq_true h2, rfl⟩
theorem others_mem {p l i : Nat} {rs : List (List Int)} (h : i < rs.length) (hn : i ≠ l) : vless (gr rs i) (gr rs l) ((at_ p (gr rs i)).fdiv (at_ p (gr rs l))) ∈ others p rs l :=
  List.mem_map.mpr ⟨i, List.mem_filter.mpr ⟨List.mem_range.mpr h, decide_eq_true hn⟩, rfl⟩
theorem mem_gr {rs : List (List Int)} {r : List Int} (h : r ∈ rs) : ∃ i, i < rs.length ∧ gr rs i = r := by
  obtain ⟨j, hj, e⟩ := List.mem_iff_getElem.mp h
  exact ⟨j, hj, by unfold gr; rw [List.getD_eq_getElem?_getD, List.getElem?_eq_getElem hj]; exact e⟩
/-- the two first of a row -/
abbrev xy (r : List Int) : Int × Int := (at_ 0 r, at_ 1 r)
theorem turn_same {p l n : Nat} {rs : List (List Int)} (hl : l < rs.length) (hr : ∀ r ∈ rs, r.length = n) : Same (rs.map xy) ((others p rs l ++ [gr rs l]).map xy) := by
  have hlow := gr_mem hl
  refine ⟨fun q hq => ?_, fun q hq => ?_⟩
  · obtain ⟨r, hrr, rfl⟩ := List.mem_map.mp hq
    obtain ⟨i, hi, rfl⟩ := mem_gr hrr
    have gl : Gen ((others p rs l ++ [gr rs l]).map xy) (at_ 0 (gr rs l)) (at_ 1 (gr rs l)) := Gen.mem (p := xy (gr rs l)) (List.mem_map.mpr ⟨_, by simp, rfl⟩)
    by_cases e : i = l
    · subst e; exact gl
    · have hv := others_mem (p := p) hi e
      have lens : (gr rs l).length = (gr rs i).length := by rw [hr _ hlow, hr _ hrr]
      have gv := (Gen.mem (S := (others p rs l ++ [gr rs l]).map xy) (p := xy (vless (gr rs i) (gr rs l) ((at_ p (gr rs i)).fdiv (at_ p (gr rs l))))) (List.mem_map.mpr ⟨_, List.mem_append_left _ hv, rfl⟩)).cast (at_vless lens 0) (at_vless lens 1)
      exact Gen.unless _ gv gl
  · obtain ⟨v, hv, rfl⟩ := List.mem_map.mp hq
    have gl : Gen (rs.map xy) (at_ 0 (gr rs l)) (at_ 1 (gr rs l)) := Gen.mem (p := xy (gr rs l)) (List.mem_map.mpr ⟨_, hlow, rfl⟩)
    rcases List.mem_append.mp hv with hv | hv
    · obtain ⟨i, hi, e, rfl⟩ := mem_others hv
      have lens : (gr rs l).length = (gr rs i).length := by rw [hr _ hlow, hr _ (gr_mem hi)]
      have gi : Gen (rs.map xy) (at_ 0 (gr rs i)) (at_ 1 (gr rs i)) := Gen.mem (p := xy (gr rs i)) (List.mem_map.mpr ⟨_, gr_mem hi, rfl⟩)
      exact (Gen.less _ gi gl).cast (at_vless lens 0).symm (at_vless lens 1).symm
    · rw [List.mem_singleton.mp hv]; exact gl
theorem turn_len {p l n : Nat} {rs : List (List Int)} (hl : l < rs.length) (hr : ∀ r ∈ rs, r.length = n) : ∀ r ∈ others p rs l ++ [gr rs l], r.length = n := by
  have hlow := gr_mem hl
  intro r h
  rcases List.mem_append.mp h with h | h
  · obtain ⟨i, hi, e, rfl⟩ := mem_others h
    rw [vless_len (by rw [hr _ hlow, hr _ (gr_mem hi)]), hr _ (gr_mem hi)]
  · rw [List.mem_singleton.mp h]; exact hr _ hlow
/-- behind a turn the others are less than the least one -/
theorem turn_small {p l n : Nat} {rs : List (List Int)} (hl : l < rs.length) (hr : ∀ r ∈ rs, r.length = n) (h0 : at_ p (gr rs l) ≠ 0) : ∀ r ∈ others p rs l, (at_ p r).natAbs < (at_ p (gr rs l)).natAbs := by
  have hlow := gr_mem hl
  intro r h
  obtain ⟨i, hi, e, rfl⟩ := mem_others h
  rw [at_vless (by rw [hr _ hlow, hr _ (gr_mem hi)])]
  have h1 : at_ p (gr rs i) - at_ p (gr rs l) * (at_ p (gr rs i)).fdiv (at_ p (gr rs l)) = (at_ p (gr rs i)).fmod (at_ p (gr rs l)) := by
    have := Int.mul_fdiv_add_fmod (at_ p (gr rs i)) (at_ p (gr rs l))
    omega
  rw [h1]
  generalize at_ p (gr rs i) = a at *
  generalize at_ p (gr rs l) = b at *
  by_cases hb : 0 < b
  · have g1 := Int.fmod_nonneg_of_pos a hb
    have g2 := Int.fmod_lt_of_pos a hb
    omega
  · have hb : b < 0 := by omega
    have g1 := Int.neg_fmod_neg a b
    have g2 := Int.fmod_nonneg_of_pos (-a) (show 0 < -b by omega)
    have g3 := Int.fmod_lt_of_pos (-a) (show 0 < -b by omega)
    omega
end K77
end KL
/-! k77: how great entries become. -/
namespace KL
namespace K77
theorem fmod_lt {a b : Int} (h : b ≠ 0) : (a.fmod b).natAbs < b.natAbs := by
  by_cases hb : 0 < b
  · have g1 := Int.fmod_nonneg_of_pos a hb
    have g2 := Int.fmod_lt_of_pos a hb
    omega
  · have hb : b < 0 := by omega
    have g1 := Int.neg_fmod_neg a b
    have g2 := Int.fmod_nonneg_of_pos (-a) (show 0 < -b by omega)
    have g3 := Int.fmod_lt_of_pos (-a) (show 0 < -b by omega)
    omega
theorem fdiv_le {a b : Int} (h : b ≠ 0) : (a.fdiv b).natAbs ≤ a.natAbs / b.natAbs + 1 := by
  have h1 := Int.mul_fdiv_add_fmod a b
  have h2 := fmod_lt (a := a) h
  have hb : 0 < b.natAbs := by omega
  have h3 : (b * a.fdiv b).natAbs ≤ a.natAbs + b.natAbs := by omega
  rw [Int.natAbs_mul, Nat.mul_comm] at h3
  have h4 := (Nat.le_div_iff_mul_le hb).mpr h3
  rw [Nat.add_div_right _ hb] at h4
  exact h4
theorem gr_at {p : Nat} {r : List Int} {A : Nat} (h : ∀ a ∈ r, a.natAbs ≤ A) : (at_ p r).natAbs ≤ A := by
  unfold at_
  rw [List.getD_eq_getElem?_getD]
  cases q : r[p]? with
  | none => simp
  | some a => exact h a (List.mem_of_getElem? q)
theorem vless_size {r s : List Int} {q : Int} {A Q : Nat} (h : ∀ a ∈ r, a.natAbs ≤ A) (h' : ∀ a ∈ s, a.natAbs ≤ A) (hq : q.natAbs ≤ Q) : ∀ a ∈ vless r s q, a.natAbs ≤ A * (Q + 1) := by
  intro a ha
  unfold vless at ha
  obtain ⟨j, hj, e⟩ := List.mem_iff_getElem.mp ha
  rw [List.getElem_zipWith, List.getElem_map] at e
  rw [List.length_zipWith, List.length_map] at hj
  have h1 := h _ (List.getElem_mem (show j < r.length by omega))
  have h2 := h' _ (List.getElem_mem (show j < s.length by omega))
  generalize r[j]'(by omega) = u at e h1
  generalize s[j]'(by omega) = v at e h2
  have h3 : (v * q).natAbs ≤ A * Q := by rw [Int.natAbs_mul]; exact Nat.mul_le_mul h2 hq
  rw [Nat.mul_add, Nat.mul_one]
  omega
/-- entries below A, the column's below R, A R below C -/
def Sm (p : Nat) (rs : List (List Int)) (C : Nat) : Prop := ∃ A R, (∀ r ∈ rs, ∀ a ∈ r, a.natAbs ≤ A) ∧ (∀ r ∈ rs, (at_ p r).natAbs ≤ R) ∧ 1 ≤ R ∧ A * R ≤ C
theorem Sm.entry {p : Nat} {rs : List (List Int)} {C : Nat} (h : Sm p rs C) {r : List Int} (hr : r ∈ rs) {a : Int} (ha : a ∈ r) : a.natAbs ≤ C := by
  obtain ⟨A, R, h1, h2, h3, h4⟩ := h
  have := h1 r hr a ha
  have h5 : A * 1 ≤ A * R := Nat.mul_le_mul_left A h3
  omega
theorem turn_size {p l n C : Nat} {rs : List (List Int)} (hl : l < rs.length) (hr : ∀ r ∈ rs, r.length = n) (h0 : at_ p (gr rs l) ≠ 0) (h : Sm p rs C) : Sm p (others p rs l ++ [gr rs l]) (4 * C) := by
  obtain ⟨A, R, h1, h2, h3, h4⟩ := h
  have hlow := gr_mem hl
  have hL : 0 < (at_ p (gr rs l)).natAbs := by omega
  have hLR := h2 _ hlow
  refine ⟨A * (R / (at_ p (gr rs l)).natAbs + 2), (at_ p (gr rs l)).natAbs, fun r hrr => ?_, fun r hrr => ?_, hL, ?_⟩
  · rcases List.mem_append.mp hrr with hrr | hrr
    · obtain ⟨i, hi, e, rfl⟩ := mem_others hrr
      have hq : ((at_ p (gr rs i)).fdiv (at_ p (gr rs l))).natAbs ≤ R / (at_ p (gr rs l)).natAbs + 1 := by
        have a1 := fdiv_le (a := at_ p (gr rs i)) h0
        have a2 := Nat.div_le_div_right (c := (at_ p (gr rs l)).natAbs) (h2 _ (gr_mem hi))
        omega
      exact vless_size (h1 _ (gr_mem hi)) (h1 _ hlow) hq
    · rw [List.mem_singleton.mp hrr]
      intro a ha
      have a1 := h1 _ hlow a ha
      have a2 : A * 1 ≤ A * (R / (at_ p (gr rs l)).natAbs + 2) := Nat.mul_le_mul_left A (Nat.le_trans (by decide) (Nat.le_add_left 2 _))
      omega
  · rcases List.mem_append.mp hrr with hrr | hrr
    · exact Nat.le_of_lt (turn_small hl hr h0 r hrr)
    · rw [List.mem_singleton.mp hrr]; exact Nat.le_refl _
  · generalize (at_ p (gr rs l)).natAbs = L at *
    have a1 := Nat.div_mul_le_self R L
    calc A * (R / L + 2) * L = A * (R / L * L + 2 * L) := by rw [Nat.mul_assoc, Nat.add_mul]
      _ ≤ A * (R + 2 * R) := Nat.mul_le_mul_left A (by omega)
      _ = 3 * (A * R) := by rw [show R + 2 * R = 3 * R by omega, Nat.mul_left_comm]
      _ ≤ 4 * C := by omega
end K77
end KL
/-! k77: how many rows have something at the place. -/
namespace KL
namespace K77
theorem cnt_le {α : Type} {p q : α → Bool} : ∀ {l : List α}, (∀ x ∈ l, p x = true → q x = true) → (l.filter p).length ≤ (l.filter q).length
  | [], _ => Nat.le_refl _
  | a :: l, h => by
    have ih := cnt_le (p := p) (q := q) (l := l) fun x hx => h x (by simp [hx])
    have ha := h a (by simp)
    rw [List.filter_cons, List.filter_cons]
    cases e : p a with
    | true => rw [ha e]; simp only [if_true, List.length_cons]; omega
    | false =>
      cases e2 : q a with
      | true => simp only [if_true, List.length_cons, Bool.false_eq_true, if_false]; omega
      | false => simp only [Bool.false_eq_true, if_false]; exact ih
theorem cnt_lt {α : Type} {p q : α → Bool} : ∀ {l : List α}, (∀ x ∈ l, p x = true → q x = true) → (∃ x ∈ l, q x = true ∧ p x = false) → (l.filter p).length < (l.filter q).length
  | [], _, ⟨x, hx, _⟩ => by cases hx
  | a :: l, h, ⟨x, hx, h1, h2⟩ => by
    have le := cnt_le (p := p) (q := q) (l := l) fun x hx => h x (by simp [hx])
    have ha := h a (by simp)
    rw [List.filter_cons, List.filter_cons]
    rcases List.mem_cons.mp hx with rfl | hx
    · rw [h1, h2]; simp only [if_true, List.length_cons, Bool.false_eq_true, if_false]; omega
    · have ih := cnt_lt (p := p) (q := q) (l := l) (fun x hx => h x (by simp [hx])) ⟨x, hx, h1, h2⟩
      cases e : p a with
      | true => rw [ha e]; simp only [if_true, List.length_cons]; omega
      | false =>
        cases e2 : q a with
        | true => simp only [if_true, List.length_cons, Bool.false_eq_true, if_false]; omega
        | false => simp only [Bool.false_eq_true, if_false]; exact ih
theorem rs_range (rs : List (List Int)) : (List.range rs.length).map (gr rs) = rs := by
  apply List.ext_getElem
  · simp
  · intro i h1 h2
    rw [List.getElem_map, List.getElem_range]
    unfold gr
    rw [List.getD_eq_getElem?_getD, List.getElem?_eq_getElem h2]; rfl
theorem nz_range (p : Nat) (rs : List (List Int)) : (nz p rs).length = ((List.range rs.length).filter fun i => at_ p (gr rs i) != 0).length := by
  have h : nz p ((List.range rs.length).map (gr rs)) = ((List.range rs.length).filter fun i => at_ p (gr rs i) != 0).map (gr rs) := by
    unfold nz; rw [List.filter_map]; rfl
  rw [rs_range] at h
  rw [h, List.length_map]
theorem fmod_col {p l i n : Nat} {rs : List (List Int)} (hr : ∀ r ∈ rs, r.length = n) (hl : l < rs.length) (hi : i < rs.length) : at_ p (vless (gr rs i) (gr rs l) ((at_ p (gr rs i)).fdiv (at_ p (gr rs l)))) = (at_ p (gr rs i)).fmod (at_ p (gr rs l)) := by
  rw [at_vless (by rw [hr _ (gr_mem hl), hr _ (gr_mem hi)])]
  have := Int.mul_fdiv_add_fmod (at_ p (gr rs i)) (at_ p (gr rs l))
  omega
theorem nz_others {p l n : Nat} {rs : List (List Int)} (hr : ∀ r ∈ rs, r.length = n) (hl : l < rs.length) : (nz p (others p rs l)).length = ((List.range rs.length).filter fun i => decide (i ≠ l) && ((at_ p (gr rs i)).fmod (at_ p (gr rs l)) != 0)).length := by
  unfold nz others
  rw [List.filter_map, List.length_map, List.filter_filter]
  congr 1
  apply List.filter_congr
  intro i hi
  have hi : i < rs.length := List.mem_range.mp hi
  show ((at_ p (vless (gr rs i) (gr rs l) ((at_ p (gr rs i)).fdiv (at_ p (gr rs l)))) != 0) && decide (i ≠ l)) = _
  rw [fmod_col hr hl hi, Bool.and_comm]
theorem nz_app {p : Nat} {rs : List (List Int)} {r : List Int} (h : at_ p r ≠ 0) : (nz p (rs ++ [r])).length = (nz p rs).length + 1 := by
  unfold nz
  have : (at_ p r != 0) = true := by simpa using h
  rw [List.filter_append, List.length_append, List.filter_cons, this]; rfl
theorem zero_fmod' (b : Int) : (0 : Int).fmod b = 0 := Int.zero_fmod b
/-- a turn makes no more of them -/
theorem turn_nz {p l n : Nat} {rs : List (List Int)} (hr : ∀ r ∈ rs, r.length = n) (hl : l < rs.length) (h0 : at_ p (gr rs l) ≠ 0) : (nz p (others p rs l ++ [gr rs l])).length ≤ (nz p rs).length := by
  rw [nz_app h0, nz_others hr hl, nz_range]
  refine cnt_lt (fun i hi h => ?_) ⟨l, List.mem_range.mpr hl, by simpa using h0, by simp⟩
  simp only [Bool.and_eq_true, bne_iff_ne] at h ⊢
  exact fun z => h.2 (by rw [z]; exact zero_fmod' _)
/-- and fewer, if another one is divided -/
theorem turn_nz_lt {p l n j : Nat} {rs : List (List Int)} (hr : ∀ r ∈ rs, r.length = n) (hl : l < rs.length) (h0 : at_ p (gr rs l) ≠ 0) (hj : j < rs.length) (hjl : j ≠ l) (hj0 : at_ p (gr rs j) ≠ 0) (hz : (at_ p (gr rs j)).fmod (at_ p (gr rs l)) = 0) :
    (nz p (others p rs l ++ [gr rs l])).length < (nz p rs).length := by
  rw [nz_app h0, nz_others hr hl, nz_range]
  have a1 : ((List.range rs.length).filter fun i => decide (i ≠ l) && ((at_ p (gr rs i)).fmod (at_ p (gr rs l)) != 0)).length < ((List.range rs.length).filter fun i => decide (i ≠ l) && (at_ p (gr rs i) != 0)).length := by
    refine cnt_lt (fun i hi h => ?_) ⟨j, List.mem_range.mpr hj, Bool.and_eq_true_iff.mpr ⟨decide_eq_true hjl, bne_iff_ne.mpr hj0⟩, by rw [hz, decide_eq_true hjl]; rfl⟩
    simp only [Bool.and_eq_true, bne_iff_ne] at h ⊢
    exact ⟨h.1, fun z => h.2 (by rw [z]; exact zero_fmod' _)⟩
  have a2 : ((List.range rs.length).filter fun i => decide (i ≠ l) && (at_ p (gr rs i) != 0)).length < ((List.range rs.length).filter fun i => at_ p (gr rs i) != 0).length := by
    refine cnt_lt (fun i hi h => ?_) ⟨l, List.mem_range.mpr hl, by simpa using h0, by simp⟩
    simp only [Bool.and_eq_true] at h
    exact h.2
  omega
theorem turn_count {p l : Nat} {rs : List (List Int)} (hl : l < rs.length) : (others p rs l ++ [gr rs l]).length ≤ rs.length := by
  unfold others
  rw [List.length_append, List.length_map, List.length_singleton]
  have := cnt_lt (p := fun i => decide (i ≠ l)) (q := fun _ => true) (l := List.range rs.length) (fun _ _ _ => rfl) ⟨l, List.mem_range.mpr hl, rfl, by simp⟩
  rw [List.filter_eq_self.mpr (fun _ _ => rfl), List.length_range] at this
  omega
end K77
end KL
set_option exponentiation.threshold 100000
/-! k77: the while of cleared ends. -/
namespace KL
namespace K77
open PySem L2
theorem half_pos {a b : Int} (ha : 0 < b) (h : b ≤ a) : 2 * (a.fmod b) < a := by
  rw [Int.fmod_eq_emod_of_nonneg a (by omega)]
  have h1 := Int.mul_ediv_add_emod a b
  have h2 : 1 ≤ a / b := Int.le_ediv_of_mul_le ha (by omega)
  have h3 := Int.emod_lt_of_pos a ha
  have h4 : b * 1 ≤ b * (a / b) := Int.mul_le_mul_of_nonneg_left h2 (by omega)
  omega
theorem half_fmod {a b : Int} (hs : (0 < a ∧ 0 < b) ∨ (a < 0 ∧ b < 0)) (h : b.natAbs ≤ a.natAbs) : 2 * (a.fmod b).natAbs < a.natAbs := by
  rcases hs with ⟨ha, hb⟩ | ⟨ha, hb⟩
  · have h1 := half_pos hb (show b ≤ a by omega)
    have h2 := Int.fmod_nonneg_of_pos a hb
    omega
  · have h1 := half_pos (a := -a) (b := -b) (by omega) (by omega)
    have h2 := Int.fmod_nonneg_of_pos (-a) (show 0 < -b by omega)
    have h3 := Int.neg_fmod_neg a b
    omega
theorem fmod_sign {a b : Int} : (0 < b → 0 ≤ a.fmod b) ∧ (b < 0 → a.fmod b ≤ 0) := by
  refine ⟨fun h => Int.fmod_nonneg_of_pos a h, fun h => ?_⟩
  have h2 := Int.fmod_nonneg_of_pos (-a) (show 0 < -b by omega)
  have h3 := Int.neg_fmod_neg a b
  omega
def Closed (n : Nat) (P : List Int → Prop) : Prop := ∀ r s q, r.length = n → s.length = n → P r → P s → P (vless r s q)
structure Ok (p n N C : Nat) (P : List Int → Prop) (S0 : List (Int × Int)) (rs : List (List Int)) : Prop where
  len : ∀ r ∈ rs, r.length = n
  cnt : rs.length ≤ N
  sm : Sm p rs C
  pr : ∀ r ∈ rs, P r
  same : Same S0 (rs.map xy)
theorem Sm.mono {p C C' : Nat} {rs : List (List Int)} (h : Sm p rs C) (hc : C ≤ C') : Sm p rs C' := let ⟨A, R, a, b, c, d⟩ := h; ⟨A, R, a, b, c, Nat.le_trans d hc⟩
theorem Ok.mono {p n N C C' : Nat} {P : List Int → Prop} {S0 : List (Int × Int)} {rs : List (List Int)} (h : Ok p n N C P S0 rs) (hc : C ≤ C') : Ok p n N C' P S0 rs := ⟨h.len, h.cnt, h.sm.mono hc, h.pr, h.same⟩
theorem Ok.turn {p n N C l : Nat} {P : List Int → Prop} {S0 : List (Int × Int)} {rs : List (List Int)} (hP : Closed n P) (h : Ok p n N C P S0 rs) (hl : l < rs.length) (h0 : at_ p (gr rs l) ≠ 0) : Ok p n N (4 * C) P S0 (others p rs l ++ [gr rs l]) := by
  refine ⟨turn_len hl h.len, Nat.le_trans (turn_count hl) h.cnt, turn_size hl h.len h0 h.sm, fun r hr => ?_, h.same.trans (turn_same hl h.len)⟩
  rcases List.mem_append.mp hr with hr | hr
  · obtain ⟨i, hi, e, rfl⟩ := mem_others hr
    exact hP _ _ _ (h.len _ (gr_mem hi)) (h.len _ (gr_mem hl)) (h.pr _ (gr_mem hi)) (h.pr _ (gr_mem hl))
  · rw [List.mem_singleton.mp hr]; exact h.pr _ (gr_mem hl)
/-- behind a turn: all others are less than the last one, and of its sign -/
structure Aft (p : Nat) (os : List (List Int)) (low : List Int) : Prop where
  nz : at_ p low ≠ 0
  lt : ∀ r ∈ os, (at_ p r).natAbs < (at_ p low).natAbs
  sg : ∀ r ∈ os, (0 < at_ p low → 0 ≤ at_ p r) ∧ (at_ p low < 0 → at_ p r ≤ 0)
theorem aft_turn {p l n : Nat} {rs : List (List Int)} (hl : l < rs.length) (hr : ∀ r ∈ rs, r.length = n) (h0 : at_ p (gr rs l) ≠ 0) : Aft p (others p rs l) (gr rs l) := by
  refine ⟨h0, turn_small hl hr h0, fun r h => ?_⟩
  obtain ⟨i, hi, e, rfl⟩ := mem_others h
  rw [fmod_col hr hl hi]
  exact fmod_sign
theorem run {p n N : Nat} {P : List Int → Prop} {S0 : List (Int × Int)} {c6 : Cell} (hP : Closed n P) (hp : p < n) (hn : n < 1000) (hN : N < 1000) : ∀ (k b m C : Nat) (os : List (List Int)) (low : List Int) (c0 c2 c3 c4 c5 : Cell), b + m ≤ k → Ok p n N C P S0 (os ++ [low]) → Aft p os low →
    ((nz p (os ++ [low])).length ≤ 1 ∨ ∃ r ∈ os, at_ p r ≠ 0 ∧ (at_ p low).natAbs * (at_ p r).natAbs < 2 ^ b) → (nz p (os ++ [low])).length ≤ m → C * 4 ^ k < 2 ^ 7900 →
    (c0 = .ow (rowsD (os ++ [low])) ∨ c0 = .va (.lst (rowsD (os ++ [low])))) → (canC c0 = true ∧ canC c2 = true ∧ canC c3 = true ∧ canC c4 = true ∧ canC c5 = true) → ∀ f, k + 1 ≤ f →
    ∃ rs' d2 d3 d4 d5, whileM cleared_c1 cleared_b2 f [c0, .va (.int (p : Nat)), c2, c3, c4, c5, c6, .no, .no] = .nx [.va (.lst (rowsD rs')), .va (.int (p : Nat)), d2, d3, d4, d5, c6, .no, .no] ∧ (canC d2 = true ∧ canC d3 = true ∧ canC d4 = true ∧ canC d5 = true) ∧ Ok p n N (C * 4 ^ k) P S0 rs' ∧ (nz p rs').length ≤ 1 := by
  intro k
  induction k with
  | zero =>
    intro b m C os low c0 c2 c3 c4 c5 hk ok af hpot hm hC h0 hc f hf
    have hb : m = 0 := by omega
    rw [nz_app af.nz] at hm
    omega
  | succ k ih =>
    intro b m C os low c0 c2 c3 c4 c5 hk ok af hpot hm hC h0 hc f hf
    obtain ⟨f, rfl⟩ : ∃ g, f = g + 1 := ⟨f - 1, by omega⟩
    have hpl : ∀ r ∈ os ++ [low], p < r.length := fun r hr => by rw [ok.len r hr]; exact hp
    have hlen : (os ++ [low]).length < 1000 := Nat.lt_of_le_of_lt ok.cnt hN
    have hcond := cond_ok (c2 := c2) (c3 := c3) (c4 := c4) (c5 := c5) (c6 := c6) h0 hlen hpl
    have hC4 : C ≤ C * 4 ^ (k + 1) := Nat.le_mul_of_pos_right C (Nat.pow_pos (by omega))
    have hstep : whileM cleared_c1 cleared_b2 (f + 1) [c0, .va (.int (p : Nat)), c2, c3, c4, c5, c6, .no, .no] = (cleared_c1 [c0, .va (.int (p : Nat)), c2, c3, c4, c5, c6, .no, .no]).s fun b Δ1 => if b = true then (cleared_b2 Δ1).loop (whileM cleared_c1 cleared_b2 f) else .nx Δ1 := rfl
    rw [hstep, hcond, s_ok_]
    by_cases hnz : 1 < (nz p (os ++ [low])).length
    case neg =>
      rw [if_neg (by simpa using hnz)]
      exact ⟨_, c2, c3, c4, c5, rfl, hc.2, ok.mono hC4, by omega⟩
    rw [if_pos (by simpa using hnz)]
    have hpot : ∃ r ∈ os, at_ p r ≠ 0 ∧ (at_ p low).natAbs * (at_ p r).natAbs < 2 ^ b := hpot.elim (fun z => by omega) id
    have hsz : ∀ r ∈ os ++ [low], Sz 7900 r := fun r hr a ha => by
      have := ok.sm.entry hr ha
      omega
    obtain ⟨l, hl, hl0, hmin, d2, d3, d4, d5, hd, hturn⟩ := turn_ok (rs := os ++ [low]) (c6 := c6) (n := n) (B := 7900) (.inr rfl) ⟨rfl, hc.2⟩ hlen hn hp ok.len (Nat.le_refl _) hsz (fun z => by rw [z] at hnz; simp at hnz)
    rw [hturn, loop_nx]
    obtain ⟨r, hr, hr0, hrb⟩ := hpot
    have hL1 : (at_ p (gr (os ++ [low]) l)).natAbs ≤ (at_ p r).natAbs := hmin r (List.mem_filter.mpr ⟨List.mem_append_left _ hr, by simpa using hr0⟩)
    have hrL := af.lt r hr
    have hj : os.length < (os ++ [low]).length := by simp
    have hgj : gr (os ++ [low]) os.length = low := by unfold gr; simp
    have hjl : os.length ≠ l := fun z => by rw [← z, hgj] at hL1; omega
    have ok1 := ok.turn hP hl hl0
    have af1 := aft_turn hl ok.len hl0
    have hCk : 4 * C * 4 ^ k = C * 4 ^ (k + 1) := by rw [Nat.pow_succ]; rw [Nat.mul_comm 4 C, Nat.mul_assoc, Nat.mul_comm 4]
    have glos : gr (os ++ [low]) l ∈ os := by
      rcases List.mem_append.mp (gr_mem hl) with h | h
      · exact h
      · rw [List.mem_singleton.mp h] at hL1; omega
    have fin : ∀ (b' m' : Nat), b' + m' ≤ k → ((nz p (others p (os ++ [low]) l ++ [gr (os ++ [low]) l])).length ≤ 1 ∨ ∃ r ∈ others p (os ++ [low]) l, at_ p r ≠ 0 ∧ (at_ p (gr (os ++ [low]) l)).natAbs * (at_ p r).natAbs < 2 ^ b') → (nz p (others p (os ++ [low]) l ++ [gr (os ++ [low]) l])).length ≤ m' → _ := fun b' m' h1 h2 h3 =>
      ih b' m' (4 * C) _ _ (.ow (rowsD (others p (os ++ [low]) l ++ [gr (os ++ [low]) l]))) d2 d3 d4 d5 h1 ok1 af1 h2 h3 (by rw [hCk]; exact hC) (.inl rfl) ⟨rfl, hd⟩ f (by omega)
    rw [hCk] at fin
    by_cases hz : (at_ p (gr (os ++ [low]) os.length)).fmod (at_ p (gr (os ++ [low]) l)) = 0
    · have h1 := turn_nz_lt ok.len hl hl0 hj hjl (by rw [hgj]; exact af.nz) hz
      refine fin b (m - 1) (by omega) ?_ (by omega)
      by_cases h2 : (nz p (others p (os ++ [low]) l ++ [gr (os ++ [low]) l])).length ≤ 1
      · exact .inl h2
      · rw [nz_app hl0] at h2
        have h3 : 0 < (nz p (others p (os ++ [low]) l)).length := by omega
        obtain ⟨r', hr'⟩ := List.exists_mem_of_length_pos h3
        obtain ⟨g1, g2⟩ := List.mem_filter.mp hr'
        refine .inr ⟨r', g1, by simpa using g2, ?_⟩
        have g3 := af1.lt r' g1
        refine Nat.lt_of_le_of_lt ?_ hrb
        exact Nat.mul_le_mul (by omega) (by omega)
    · refine fin (b - 1) m ?_ (.inr ⟨_, others_mem hj hjl, ?_, ?_⟩) (Nat.le_trans (turn_nz ok.len hl hl0) hm)
      · have : b ≠ 0 := fun z => by
          rw [z] at hrb
          have : 0 < (at_ p low).natAbs * (at_ p r).natAbs := Nat.mul_pos (by have := af.nz; omega) (by omega)
          omega
        omega
      · rw [fmod_col ok.len hl hj]; exact hz
      · rw [fmod_col ok.len hl hj, hgj]
        have hs : (0 < at_ p low ∧ 0 < at_ p (gr (os ++ [low]) l)) ∨ (at_ p low < 0 ∧ at_ p (gr (os ++ [low]) l) < 0) := by
          have g := af.sg _ glos
          have := af.nz
          omega
        have hh := half_fmod hs (by omega)
        have hb0 : b ≠ 0 := fun z => by
          rw [z] at hrb
          have : 0 < (at_ p low).natAbs * (at_ p r).natAbs := Nat.mul_pos (by have := af.nz; omega) (by omega)
          omega
        have hpw : 2 ^ b = 2 ^ (b - 1) * 2 := by rw [← Nat.pow_succ]; congr 1; omega
        have h5 : (at_ p (gr (os ++ [low]) l)).natAbs * (2 * ((at_ p low).fmod (at_ p (gr (os ++ [low]) l))).natAbs) ≤ (at_ p r).natAbs * (at_ p low).natAbs := Nat.mul_le_mul hL1 (by omega)
        rw [Nat.mul_comm (at_ p r).natAbs] at h5
        rw [Nat.mul_left_comm] at h5
        omega
end K77
end KL
set_option exponentiation.threshold 100000
/-! k77: cleared from its start. -/
namespace KL
namespace K77
open PySem L2
theorem Ok.col {p n N C : Nat} {P : List Int → Prop} {S0 : List (Int × Int)} {rs : List (List Int)} (h : Ok p n N C P S0 rs) {r : List Int} (hr : r ∈ rs) : (at_ p r).natAbs ≤ C := gr_at fun a ha => h.sm.entry hr ha
theorem start {p n N c k : Nat} {P : List Int → Prop} {S0 : List (Int × Int)} {c0 c2 c3 c4 c5 c6 : Cell} {rs : List (List Int)} (hP : Closed n P) (hp : p < n) (hn : n < 1000) (hN : N < 100) (hcc : c + 4 * k + 2 * N + 4 ≤ 7800) (ok : Ok p n N (2 ^ c) P S0 rs) (hcol : ∀ r ∈ rs, (at_ p r).natAbs ≤ 2 ^ k)
    (h0 : c0 = .ow (rowsD rs) ∨ c0 = .va (.lst (rowsD rs))) (hc : canC c0 = true ∧ canC c2 = true ∧ canC c3 = true ∧ canC c4 = true ∧ canC c5 = true) :
    ∃ rs' d2 d3 d4 d5, whileM cleared_c1 cleared_b2 20000 [c0, .va (.int (p : Nat)), c2, c3, c4, c5, c6, .no, .no] = .nx [.va (.lst (rowsD rs')), .va (.int (p : Nat)), d2, d3, d4, d5, c6, .no, .no] ∧ (canC d2 = true ∧ canC d3 = true ∧ canC d4 = true ∧ canC d5 = true) ∧ Ok p n N (2 ^ (c + 4 * k + 2 * N + 4)) P S0 rs' ∧ (nz p rs').length ≤ 1 := by
  have hpl : ∀ r ∈ rs, p < r.length := fun r hr => by rw [ok.len r hr]; exact hp
  have hlen : rs.length < 1000 := Nat.lt_of_le_of_lt ok.cnt (by omega)
  have hcond := cond_ok (c2 := c2) (c3 := c3) (c4 := c4) (c5 := c5) (c6 := c6) h0 hlen hpl
  have hstep : whileM cleared_c1 cleared_b2 20000 [c0, .va (.int (p : Nat)), c2, c3, c4, c5, c6, .no, .no] = (cleared_c1 [c0, .va (.int (p : Nat)), c2, c3, c4, c5, c6, .no, .no]).s fun b Δ1 => if b = true then (cleared_b2 Δ1).loop (whileM cleared_c1 cleared_b2 19999) else .nx Δ1 := rfl
  rw [hstep, hcond, s_ok_]
  by_cases hnz : 1 < (nz p rs).length
  case neg =>
    rw [if_neg (by simpa using hnz)]
    exact ⟨_, c2, c3, c4, c5, rfl, hc.2, ok.mono (Nat.pow_le_pow_right (by omega) (by omega)), by omega⟩
  rw [if_pos (by simpa using hnz)]
  have hsz : ∀ r ∈ rs, Sz 7900 r := fun r hr a ha => by
    have h1 := ok.sm.entry hr ha
    have h2 : 2 ^ c < 2 ^ 7900 := Nat.pow_lt_pow_right (by omega) (by omega)
    omega
  obtain ⟨l, hl, hl0, hmin, d2, d3, d4, d5, hd, hturn⟩ := turn_ok (rs := rs) (c6 := c6) (n := n) (B := 7900) (.inr rfl) ⟨rfl, hc.2⟩ hlen hn hp ok.len (Nat.le_refl _) hsz (fun z => by rw [z] at hnz; simp at hnz)
  rw [hturn, loop_nx]
  have ok1 := ok.turn hP hl hl0
  have af1 := aft_turn hl ok.len hl0
  have hpw : 4 * 2 ^ c * 4 ^ (2 * k + N) = 2 ^ (c + 4 * k + 2 * N + 2) := by
    rw [show (4 : Nat) = 2 ^ 2 by rfl, ← Nat.pow_add, ← Nat.pow_mul, ← Nat.pow_add]
    congr 1; omega
  obtain ⟨rs', e2, e3, e4, e5, h1, h2, h3, h4⟩ := run (c6 := c6) hP hp hn (show N < 1000 by omega) (2 * k + N) (2 * k) N (4 * 2 ^ c) _ _ (.ow (rowsD (others p rs l ++ [gr rs l]))) d2 d3 d4 d5 (Nat.le_refl _) ok1 af1 (by
      by_cases h2 : (nz p (others p rs l ++ [gr rs l])).length ≤ 1
      · exact .inl h2
      · rw [nz_app hl0] at h2
        have h3 : 0 < (nz p (others p rs l)).length := by omega
        obtain ⟨r', hr'⟩ := List.exists_mem_of_length_pos h3
        obtain ⟨g1, g2⟩ := List.mem_filter.mp hr'
        refine .inr ⟨r', g1, by simpa using g2, ?_⟩
        have g3 := af1.lt r' g1
        have g4 := hcol _ (gr_mem hl)
        have g5 : (at_ p (gr rs l)).natAbs * (at_ p r').natAbs < (at_ p (gr rs l)).natAbs * (at_ p (gr rs l)).natAbs := Nat.mul_lt_mul_of_pos_left g3 (by omega)
        have g6 := Nat.mul_le_mul g4 g4
        rw [← Nat.pow_add, show k + k = 2 * k by omega] at g6
        omega)
    (Nat.le_trans (turn_nz ok.len hl hl0) (Nat.le_trans (List.length_filter_le _ _) ok.cnt)) (by rw [hpw]; exact Nat.pow_lt_pow_right (by omega) (by omega)) (.inl rfl) ⟨rfl, hd⟩ 19999 (by omega)
  rw [hpw] at h3
  exact ⟨rs', e2, e3, e4, e5, h1, h2, h3.mono (Nat.pow_le_pow_right (by omega) (by omega)), h4⟩
end K77
end KL
set_option exponentiation.threshold 100000
/-! k77: cleared, the whole of it. -/
namespace KL
namespace K77
open PySem L2
def pos (p : Nat) (r : List Int) : List Int := if at_ p r < 0 then r.map (· * (-1)) else r
def zs (p : Nat) (rs : List (List Int)) : List (List Int) := rs.filter fun r => !(at_ p r != 0)
def clrU (p : Nat) (rs : List (List Int)) : List (List Int) := zs p rs ++ (nz p rs).map (pos p)
theorem cleared_fn {p n N c k : Nat} {P : List Int → Prop} {S0 : List (Int × Int)} {rs : List (List Int)} (hP : Closed n P) (hp : p < n) (hn : n < 1000) (hN : N < 100) (hcc : c + 4 * k + 2 * N + 4 ≤ 7800) (ok : Ok p n N (2 ^ c) P S0 rs) (hcol : ∀ r ∈ rs, (at_ p r).natAbs ≤ 2 ^ k) :
    ∃ rs', Ok p n N (2 ^ (c + 4 * k + 2 * N + 4)) P S0 rs' ∧ (nz p rs').length ≤ 1 ∧ F_cleared [.va (.lst (rowsD rs)), .va (.int (p : Nat))] = .fr (rowsD (clrU p rs')) [.no, .no] := by
  have hlen : rs.length < 1000 := Nat.lt_of_le_of_lt ok.cnt (by omega)
  have e1 : lcM [8] (seqA (varM 0)) (tgN 8) (cst true) (lstE (callF1 listF (varR 8))) [.va (.lst (rowsD rs)), .va (.int (p : Nat)), .no, .no, .no, .no, .no, .no, .no] = .ok (rs.map row) [.va (.lst (rowsD rs)), .va (.int (p : Nat)), .no, .no, .no, .no, .no, .no, .no] :=
    lcM_mt (i := row) (seqA_lst rfl) (by omega) rfl fun r hr => ⟨[.va (.lst (rowsD rs)), .va (.int (p : Nat)), .no, .no, .no, .no, .no, .no, .va (row r)], [.va (.lst (rowsD rs)), .va (.int (p : Nat)), .no, .no, .no, .no, .no, .no, .va (row r)], rfl, rfl, rfl⟩
  obtain ⟨rs', d2, d3, d4, d5, h1, hd, ok', hnz⟩ := start (c0 := .ow (rowsD rs)) (c2 := .no) (c3 := .no) (c4 := .no) (c5 := .no) (c6 := .no) hP hp hn hN hcc ok hcol (.inl rfl) ⟨rfl, rfl, rfl, rfl, rfl⟩
  have hlen' : rs'.length < 1000 := Nat.lt_of_le_of_lt ok'.cnt (by omega)
  have ix : ∀ r ∈ rs', ixD (row r) (.int (p : Nat)) = some (.int (at_ p r)) := fun r hr => ix_row (by rw [ok'.len r hr]; exact hp)
  have e2 : lcM [8] (seqA (varM 0)) (tgN 8) (truM (opV ixD 8 (varR 1))) (ifM (asB (opM ltG (opV ixD 8 (varR 1)) (cst (D.int 0)))) (lstE (callF F_scaled (aV (varM 8) (aV (negM (cst (D.int 1))) (cst ([] : List Arg)))))) (varM 8)) [.va (.lst (rowsD rs')), .va (.int (p : Nat)), d2, d3, d4, d5, .no, .no, .no] =
      .ok ((rs'.filter fun r => at_ p r != 0).map fun r => row (pos p r)) [.va (.lst (rowsD rs')), .va (.int (p : Nat)), d2, d3, d4, d5, .no, .no, .no] := by
    refine lcM_ft (i := row) (seqA_lst rfl) (by omega) rfl fun r hr => ?_
    refine ⟨[.va (.lst (rowsD rs')), .va (.int (p : Nat)), d2, d3, d4, d5, .no, .no, .va (row r)], [.va (.lst (rowsD rs')), .va (.int (p : Nat)), d2, d3, d4, d5, .no, .no, .va (row r)], rfl, truM_ok (opV_ok rfl rfl (ix r hr)) rfl, fun _ => ⟨[.va (.lst (rowsD rs')), .va (.int (p : Nat)), d2, d3, d4, d5, .no, .no, .va (row r)], ?_, rfl⟩, fun _ => rfl⟩
    have ht : asB (opM ltG (opV ixD 8 (varR 1)) (cst (D.int 0))) [.va (.lst (rowsD rs')), .va (.int (p : Nat)), d2, d3, d4, d5, .no, .no, .va (row r)] = .ok (decide (at_ p r < 0)) [.va (.lst (rowsD rs')), .va (.int (p : Nat)), d2, d3, d4, d5, .no, .no, .va (row r)] := asB_ok (opM_ok (opV_ok rfl rfl (ix r hr)) rfl ltG_int)
    rw [ifM_, ht, bind_ok_]
    unfold pos
    by_cases hneg : at_ p r < 0
    · rw [if_pos (by simpa using hneg), if_pos hneg]
      refine lstE_ok (callV2f rfl rfl (scaled_ok (n := 7900) (k := 1) (q := -1) (by rw [ok'.len r hr]; exact hn) (fun a ha => ?_) (by decide) (by omega)))
      have g1 := ok'.sm.entry hr ha
      have g2 : 2 ^ (c + 4 * k + 2 * N + 4) < 2 ^ 7900 := Nat.pow_lt_pow_right (by omega) (by omega)
      omega
    · rw [if_neg (by simpa using hneg), if_neg hneg]; rfl
  have e3 : lcM [8] (seqA (varM 0)) (tgN 8) (notM (truM (opV ixD 8 (varR 1)))) (varM 8) [.va (.lst (rowsD rs')), .va (.int (p : Nat)), d2, d3, d4, d5, .ow ((rs'.filter fun r => at_ p r != 0).map fun r => row (pos p r)), .no, .no] =
      .ok ((rs'.filter fun r => !(at_ p r != 0)).map row) [.va (.lst (rowsD rs')), .va (.int (p : Nat)), d2, d3, d4, d5, .ow ((rs'.filter fun r => at_ p r != 0).map fun r => row (pos p r)), .no, .no] := by
    refine lcM_ft (i := row) (seqA_lst rfl) (by omega) rfl fun r hr => ?_
    have ht : truM (opV ixD 8 (varR 1)) [.va (.lst (rowsD rs')), .va (.int (p : Nat)), d2, d3, d4, d5, .ow ((rs'.filter fun r => at_ p r != 0).map fun r => row (pos p r)), .no, .va (row r)] = .ok (at_ p r != 0) [.va (.lst (rowsD rs')), .va (.int (p : Nat)), d2, d3, d4, d5, .ow ((rs'.filter fun r => at_ p r != 0).map fun r => row (pos p r)), .no, .va (row r)] := truM_ok (opV_ok rfl rfl (ix r hr)) rfl
    refine ⟨[.va (.lst (rowsD rs')), .va (.int (p : Nat)), d2, d3, d4, d5, .ow ((rs'.filter fun r => at_ p r != 0).map fun r => row (pos p r)), .no, .va (row r)], [.va (.lst (rowsD rs')), .va (.int (p : Nat)), d2, d3, d4, d5, .ow ((rs'.filter fun r => at_ p r != 0).map fun r => row (pos p r)), .no, .va (row r)], rfl, ?_, fun _ => ⟨[.va (.lst (rowsD rs')), .va (.int (p : Nat)), d2, d3, d4, d5, .ow ((rs'.filter fun r => at_ p r != 0).map fun r => row (pos p r)), .no, .va (row r)], rfl, rfl⟩, fun _ => rfl⟩
    rw [notM_, ht]; rfl
  refine ⟨rs', ok', hnz, ?_⟩
  unfold F_cleared
  rw [bodyF_]
  show (m_cleared [.va (.lst (rowsD rs)), .va (.int (p : Nat)), .no, .no, .no, .no, .no, .no, .no]).fin 2 = _
  have hm : m_cleared [.va (.lst (rowsD rs)), .va (.int (p : Nat)), .no, .no, .no, .no, .no, .no, .no] = .rf (rowsD (clrU p rs')) [.va (.lst (rowsD rs')), .va (.int (p : Nat)), d2, d3, d4, d5, .ow ((rs'.filter fun r => at_ p r != 0).map fun r => row (pos p r)), .no, .no] := by
    unfold m_cleared
    refine (sq_nx (Δ1 := [.ow (rowsD rs), .va (.int (p : Nat)), .no, .no, .no, .no, .no, .no, .no]) (setOS_ok e1 rfl)).trans ?_
    refine (sq_nx h1).trans ?_
    refine (sq_nx (Δ1 := [.va (.lst (rowsD rs')), .va (.int (p : Nat)), d2, d3, d4, d5, .ow ((rs'.filter fun r => at_ p r != 0).map fun r => row (pos p r)), .no, .no]) (setOS_ok e2 rfl)).trans ?_
    have hcat : catF (.lst ((rs'.filter fun r => !(at_ p r != 0)).map row)) (.lst ((rs'.filter fun r => at_ p r != 0).map fun r => row (pos p r))) = some (rowsD (clrU p rs')) := by
      rw [catF_ok]
      · unfold clrU rowsD zs nz; rw [List.map_append, List.map_map]; rfl
      · rw [List.length_map, List.length_map]
        have g1 := List.length_filter_le (fun r => !(at_ p r != 0)) rs'
        have g2 := List.length_filter_le (fun r => at_ p r != 0) rs'
        omega
    exact retFS_ok (opM_ok (lstE_ok e3) rfl hcat)
  rw [hm]
  show FRes.fr _ (kpD 2 _) = _
  rw [kpD_map (by show 2 ≤ 9; omega)]
  rfl
end K77
end KL
/-! k77: the rows that cleared gives. -/
namespace KL
namespace K77
theorem at_neg (j : Nat) (r : List Int) : at_ j (r.map (· * (-1))) = -at_ j r := by
  unfold at_
  rw [List.getD_eq_getElem?_getD, List.getD_eq_getElem?_getD, List.getElem?_map]
  cases r[j]? with
  | none => rfl
  | some a => show a * (-1) = -a; omega
theorem at_pos (p j : Nat) (r : List Int) : at_ j (pos p r) = if at_ p r < 0 then -at_ j r else at_ j r := by
  unfold pos
  split
  · exact at_neg j r
  · rfl
theorem pos_len (p : Nat) (r : List Int) : (pos p r).length = r.length := by
  unfold pos
  split
  · rw [List.length_map]
  · rfl
theorem pos_at (p : Nat) {r : List Int} (h : at_ p r ≠ 0) : 0 < at_ p (pos p r) := by
  rw [at_pos]
  split <;> omega
theorem pos_size {p : Nat} {r : List Int} {A : Nat} (h : ∀ a ∈ r, a.natAbs ≤ A) : ∀ a ∈ pos p r, a.natAbs ≤ A := by
  intro a ha
  unfold pos at ha
  split at ha
  · obtain ⟨b, hb, rfl⟩ := List.mem_map.mp ha
    have := h b hb
    show (b * -1).natAbs ≤ A
    omega
  · exact h a ha
abbrev clr (p : Nat) (rs : List (List Int)) : List (List Int) := clrU p rs
theorem clr_cases {p : Nat} {rs : List (List Int)} {r : List Int} (h : r ∈ clr p rs) : (r ∈ rs ∧ at_ p r = 0) ∨ ∃ s ∈ rs, at_ p s ≠ 0 ∧ r = pos p s := by
  rcases List.mem_append.mp h with h | h
  · obtain ⟨h1, h2⟩ := List.mem_filter.mp h
    exact .inl ⟨h1, by simpa using h2⟩
  · obtain ⟨s, hs, rfl⟩ := List.mem_map.mp h
    obtain ⟨h1, h2⟩ := List.mem_filter.mp hs
    exact .inr ⟨s, h1, by simpa using h2, rfl⟩
theorem clr_len {p n : Nat} {rs : List (List Int)} (h : ∀ r ∈ rs, r.length = n) : ∀ r ∈ clr p rs, r.length = n := fun r hr => by
  rcases clr_cases hr with ⟨h1, _⟩ | ⟨s, h1, _, rfl⟩
  · exact h r h1
  · rw [pos_len]; exact h s h1
theorem clr_all {p : Nat} {rs : List (List Int)} {P : List Int → Prop} (hn : ∀ r, P r → P (r.map (· * (-1)))) (h : ∀ r ∈ rs, P r) : ∀ r ∈ clr p rs, P r := fun r hr => by
  rcases clr_cases hr with ⟨h1, _⟩ | ⟨s, h1, _, rfl⟩
  · exact h r h1
  · unfold pos
    split
    · exact hn _ (h s h1)
    · exact h s h1
theorem gen_pos {S : List (Int × Int)} {p : Nat} {r : List Int} (g : Gen S (at_ 0 r) (at_ 1 r)) : Gen S (at_ 0 (pos p r)) (at_ 1 (pos p r)) := by
  rw [at_pos, at_pos]
  split
  · exact g.neg
  · exact g
theorem gen_pos' {S : List (Int × Int)} {p : Nat} {r : List Int} (g : Gen S (at_ 0 (pos p r)) (at_ 1 (pos p r))) : Gen S (at_ 0 r) (at_ 1 r) := by
  rw [at_pos, at_pos] at g
  split at g
  · exact g.neg.cast (by omega) (by omega)
  · exact g
theorem clr_same (p : Nat) (rs : List (List Int)) : Same (rs.map xy) ((clr p rs).map xy) := by
  refine ⟨fun q hq => ?_, fun q hq => ?_⟩
  · obtain ⟨r, hr, rfl⟩ := List.mem_map.mp hq
    by_cases h : at_ p r = 0
    · exact Gen.mem (p := xy r) (List.mem_map.mpr ⟨r, List.mem_append_left _ (List.mem_filter.mpr ⟨hr, by rw [h]; rfl⟩), rfl⟩)
    · exact gen_pos' (Gen.mem (p := xy (pos p r)) (List.mem_map.mpr ⟨_, List.mem_append_right _ (List.mem_map.mpr ⟨r, List.mem_filter.mpr ⟨hr, by simpa using h⟩, rfl⟩), rfl⟩))
  · obtain ⟨r, hr, rfl⟩ := List.mem_map.mp hq
    rcases clr_cases hr with ⟨h1, _⟩ | ⟨s, h1, _, rfl⟩
    · exact Gen.mem (p := xy r) (List.mem_map.mpr ⟨r, h1, rfl⟩)
    · exact gen_pos (Gen.mem (p := xy s) (List.mem_map.mpr ⟨s, h1, rfl⟩))
theorem clr_nz (p : Nat) (rs : List (List Int)) : (clr p rs).filter (fun r => at_ p r != 0) = (nz p rs).map (pos p) := by
  unfold clr clrU
  rw [List.filter_append]
  have h1 : (zs p rs).filter (fun r => at_ p r != 0) = [] := by
    rw [List.filter_eq_nil_iff]
    intro r hr
    obtain ⟨_, h2⟩ := List.mem_filter.mp hr
    simpa using h2
  have h2 : ((nz p rs).map (pos p)).filter (fun r => at_ p r != 0) = (nz p rs).map (pos p) := by
    rw [List.filter_eq_self]
    intro r hr
    obtain ⟨s, hs, rfl⟩ := List.mem_map.mp hr
    obtain ⟨_, h3⟩ := List.mem_filter.mp hs
    have := pos_at p (r := s) (by simpa using h3)
    simp only [bne_iff_ne]; omega
  rw [h1, h2]; rfl
theorem clr_zs (p : Nat) (rs : List (List Int)) : (clr p rs).filter (fun r => !(at_ p r != 0)) = zs p rs := by
  unfold clr clrU
  rw [List.filter_append]
  have h1 : (zs p rs).filter (fun r => !(at_ p r != 0)) = zs p rs := by
    rw [List.filter_eq_self]
    intro r hr
    exact (List.mem_filter.mp hr).2
  have h2 : ((nz p rs).map (pos p)).filter (fun r => !(at_ p r != 0)) = [] := by
    rw [List.filter_eq_nil_iff]
    intro r hr
    obtain ⟨s, hs, rfl⟩ := List.mem_map.mp hr
    obtain ⟨_, h3⟩ := List.mem_filter.mp hs
    have := pos_at p (r := s) (by simpa using h3)
    have e : (at_ p (pos p s) != 0) = true := by simp only [bne_iff_ne]; omega
    rw [e]; decide
  rw [h1, h2, List.append_nil]
end K77
end KL
set_option exponentiation.threshold 100000
/-! k77: form_of, its first rows; coefficients. -/
namespace KL
namespace K77
open PySem L2
abbrev pairsD (ps : List (Int × Int)) : List D := ps.map pr
abbrev gp (ps : List (Int × Int)) (i : Nat) : Int × Int := ps.getD i (0, 0)
def unit (m i : Nat) : List Int := (List.range m).map fun j => if i = j then 1 else 0
def row0 (ps : List (Int × Int)) (i : Nat) : List Int := [(gp ps i).1, (gp ps i).2] ++ unit ps.length i
def rows0 (ps : List (Int × Int)) : List (List Int) := (List.range ps.length).map (row0 ps)
theorem enumL_pairs (ps : List (Int × Int)) : enumL (pairsD ps) = (List.range ps.length).map fun i => .tup [.int (i : Nat), pr (gp ps i)] := by
  unfold enumL
  rw [List.length_map]
  apply List.map_congr_left
  intro i hi
  have hi : i < ps.length := List.mem_range.mp hi
  have e : (pairsD ps).getD i .non = pr (gp ps i) := by
    unfold gp pairsD
    rw [List.getD_eq_getElem?_getD, List.getD_eq_getElem?_getD, List.getElem?_map, List.getElem?_eq_getElem hi]; rfl
  rw [e]
theorem row0_len (ps : List (Int × Int)) (i : Nat) : (row0 ps i).length = 2 + ps.length := by
  unfold row0 unit; simp; omega
theorem rows0_ok {ps : List (Int × Int)} (hl : ps.length < 100) : lcM [4, 6] (enumM (varM 0)) (tgT 2 (tgsCons (tgN 4) (tgsCons (tgN 6) tgsNil))) (cst true) (lstE (opM catF (lstE (callF1 listF (varR 6))) (lstE (lcM [5] (range1M (call1 lenD (varR 0))) (tgN 5) (cst true) (call1 intD1 (opV eqD 4 (varR 5))))))) [.va (.lst (pairsD ps)), .no, .no, .no, .no, .no, .no, .no] =
    .ok (rowsD (rows0 ps)) [.va (.lst (pairsD ps)), .no, .no, .no, .no, .no, .no, .no] := by
  have hi : enumM (varM 0) [.va (.lst (pairsD ps)), .no, .no, .no, .no, .no, .no, .no] = .ok ((List.range ps.length).map fun i => .tup [.int (i : Nat), pr (gp ps i)]) [.va (.lst (pairsD ps)), .no, .no, .no, .no, .no, .no, .no] := by
    rw [← enumL_pairs]; rfl
  unfold rowsD rows0
  rw [List.map_map]
  refine lcM_mt (o := row ∘ row0 ps) hi (by rw [List.length_range]; omega) rfl fun i hir => ?_
  have hil : i < ps.length := List.mem_range.mp hir
  refine ⟨[.va (.lst (pairsD ps)), .no, .no, .no, .va (.int (i : Nat)), .no, .va (pr (gp ps i)), .no], [.va (.lst (pairsD ps)), .no, .no, .no, .va (.int (i : Nat)), .no, .va (pr (gp ps i)), .no], rfl, ?_, rfl⟩
  have hr : range1M (call1 lenD (varR 0)) [.va (.lst (pairsD ps)), .no, .no, .no, .va (.int (i : Nat)), .no, .va (pr (gp ps i)), .no] = .ok (rangeL 0 ps.length) [.va (.lst (pairsD ps)), .no, .no, .no, .va (.int (i : Nat)), .no, .va (pr (gp ps i)), .no] := by
    have e : call1 lenD (varR 0) [.va (.lst (pairsD ps)), .no, .no, .no, .va (.int (i : Nat)), .no, .va (pr (gp ps i)), .no] = .ok (.int ((ps.length : Nat) : Int)) [.va (.lst (pairsD ps)), .no, .no, .no, .va (.int (i : Nat)), .no, .va (pr (gp ps i)), .no] := call1_ok (varR_ok rfl) (by rw [lenD_lst, List.length_map])
    rw [range1_, e, bind_ok_, rng1_nat (by unfold lim62; omega)]
  have hu : lcM [5] (range1M (call1 lenD (varR 0))) (tgN 5) (cst true) (call1 intD1 (opV eqD 4 (varR 5))) [.va (.lst (pairsD ps)), .no, .no, .no, .va (.int (i : Nat)), .no, .va (pr (gp ps i)), .no] = .ok ((unit ps.length i).map D.int) [.va (.lst (pairsD ps)), .no, .no, .no, .va (.int (i : Nat)), .no, .va (pr (gp ps i)), .no] := by
    unfold unit
    rw [List.map_map]
    refine lcM_mt (i := fun j : Nat => D.int (0 + (j : Int))) (o := D.int ∘ fun j => if i = j then 1 else 0) hr (by rw [List.length_range]; omega) rfl fun j hj => ?_
    refine ⟨[.va (.lst (pairsD ps)), .no, .no, .no, .va (.int (i : Nat)), .va (.int (0 + (j : Int))), .va (pr (gp ps i)), .no], [.va (.lst (pairsD ps)), .no, .no, .no, .va (.int (i : Nat)), .va (.int (0 + (j : Int))), .va (pr (gp ps i)), .no], rfl, ?_, rfl⟩
    have q : opV eqD 4 (varR 5) [.va (.lst (pairsD ps)), .no, .no, .no, .va (.int (i : Nat)), .va (.int (0 + (j : Int))), .va (pr (gp ps i)), .no] = .ok (.bl (decide ((i : Int) = 0 + (j : Int)))) [.va (.lst (pairsD ps)), .no, .no, .no, .va (.int (i : Nat)), .va (.int (0 + (j : Int))), .va (pr (gp ps i)), .no] := opV_ok rfl rfl eqD_int
    have v : (if decide ((i : Int) = 0 + (j : Int)) = true then (1 : Int) else 0) = if i = j then 1 else 0 := by
      by_cases h : i = j
      · subst h; simp
      · rw [if_neg h, if_neg (by simp; omega)]
    exact call1_ok q (by rw [intD1_bl, v]; rfl)
  have hp : lstE (callF1 listF (varR 6)) [.va (.lst (pairsD ps)), .no, .no, .no, .va (.int (i : Nat)), .no, .va (pr (gp ps i)), .no] = .ok (.lst ([(gp ps i).1, (gp ps i).2].map D.int)) [.va (.lst (pairsD ps)), .no, .no, .no, .va (.int (i : Nat)), .no, .va (pr (gp ps i)), .no] := rfl
  have hcat : catF (.lst ([(gp ps i).1, (gp ps i).2].map D.int)) (.lst ((unit ps.length i).map D.int)) = some ((row0 ps i).map D.int) := by
    rw [catF_ok]
    · rw [← List.map_append]; rfl
    · unfold unit; simp; omega
  exact lstE_ok (opM_ok hp (lstE_ok hu) hcat)
end K77
end KL
/-! k77: the coefficients that rows carry. -/
namespace KL
namespace K77
def dot (xs cs : List Int) : Int := (List.zipWith (· * ·) xs cs).sum
theorem dot_cons (x c : Int) (xs cs : List Int) : dot (x :: xs) (c :: cs) = x * c + dot xs cs := rfl
theorem dot_vless : ∀ (xs cs ds : List Int) (q : Int), ds.length = cs.length → dot xs (vless cs ds q) = dot xs cs - dot xs ds * q
  | [], _, _, _, _ => by simp [dot]
  | _ :: _, [], ds, _, h => by
    have : ds = [] := List.eq_nil_of_length_eq_zero (by simpa using h)
    subst this; simp [dot, vless]
  | x :: xs, c :: cs, [], _, h => by simp at h
  | x :: xs, c :: cs, d :: ds, q, h => by
    have ih := dot_vless xs cs ds q (by simpa using h)
    show dot (x :: xs) ((c - d * q) :: vless cs ds q) = _
    rw [dot_cons, dot_cons, dot_cons, ih, Int.mul_sub, Int.add_mul, ← Int.mul_assoc]
    omega
theorem dot_neg : ∀ (xs cs : List Int), dot xs (cs.map (· * (-1))) = -dot xs cs
  | [], _ => by simp [dot]
  | _ :: _, [] => by simp [dot]
  | x :: xs, c :: cs => by
    have ih := dot_neg xs cs
    show dot (x :: xs) ((c * (-1)) :: cs.map (· * (-1))) = _
    rw [dot_cons, dot_cons, ih, Int.mul_neg, Int.mul_one, Int.mul_neg]
    omega
theorem dot_zero (xs : List Int) (f : Nat → Int) : ∀ (l : List Nat), (∀ j ∈ l, f j = 0) → dot xs (l.map f) = 0 := by
  induction xs with
  | nil => intro l _; simp [dot]
  | cons x xs ih =>
    intro l h
    cases l with
    | nil => simp [dot]
    | cons a l =>
      rw [List.map_cons, dot_cons, ih l fun j hj => h j (by simp [hj]), h a (by simp)]
      omega
theorem dot_unit : ∀ (xs : List Int) (i : Nat), i < xs.length → dot xs (unit xs.length i) = xs.getD i 0
  | [], i, h => by simp at h
  | x :: xs, 0, _ => by
    unfold unit
    rw [List.length_cons, List.range_succ_eq_map, List.map_cons, dot_cons, List.map_map, dot_zero]
    · simp
    · intro j _; simp
  | x :: xs, i + 1, h => by
    have ih := dot_unit xs i (by simpa using h)
    unfold unit at ih ⊢
    rw [List.length_cons, List.range_succ_eq_map, List.map_cons, dot_cons, List.map_map]
    have e : (fun j => if i + 1 = j then (1 : Int) else 0) ∘ Nat.succ = fun j => if i = j then 1 else 0 := by
      funext j
      show (if i + 1 = j + 1 then (1 : Int) else 0) = _
      by_cases hj : i = j
      · rw [if_pos hj, if_pos (by omega)]
      · rw [if_neg hj, if_neg (by omega)]
    rw [e, ih, if_neg (by omega)]
    simp
/-- what a row says: its pair is the sum of the pairs, so many times each -/
def Says (ps : List (Int × Int)) (r : List Int) : Prop := at_ 0 r = dot (ps.map Prod.fst) (r.drop 2) ∧ at_ 1 r = dot (ps.map Prod.snd) (r.drop 2)
theorem drop_vless (r s : List Int) (q : Int) (k : Nat) : (vless r s q).drop k = vless (r.drop k) (s.drop k) q := by
  unfold vless
  rw [List.drop_zipWith, List.map_drop]
theorem says_closed (ps : List (Int × Int)) (n : Nat) : Closed n (Says ps) := fun r s q hr hs h1 h2 => by
  have hl : s.length = r.length := by omega
  refine ⟨?_, ?_⟩
  · rw [at_vless hl, drop_vless, dot_vless _ _ _ _ (by rw [List.length_drop, List.length_drop, hl]), h1.1, h2.1]
  · rw [at_vless hl, drop_vless, dot_vless _ _ _ _ (by rw [List.length_drop, List.length_drop, hl]), h1.2, h2.2]
theorem says_neg {ps : List (Int × Int)} {r : List Int} (h : Says ps r) : Says ps (r.map (· * (-1))) := by
  refine ⟨?_, ?_⟩
  · rw [at_neg, ← List.map_drop, dot_neg, h.1]
  · rw [at_neg, ← List.map_drop, dot_neg, h.2]
theorem says_row0 {ps : List (Int × Int)} {i : Nat} (h : i < ps.length) : Says ps (row0 ps i) := by
  have e : (row0 ps i).drop 2 = unit ps.length i := rfl
  have g1 : (ps.map Prod.fst).getD i 0 = (gp ps i).1 := by unfold gp; rw [List.getD_eq_getElem?_getD, List.getD_eq_getElem?_getD, List.getElem?_map, List.getElem?_eq_getElem h]; rfl
  have g2 : (ps.map Prod.snd).getD i 0 = (gp ps i).2 := by unfold gp; rw [List.getD_eq_getElem?_getD, List.getD_eq_getElem?_getD, List.getElem?_map, List.getElem?_eq_getElem h]; rfl
  have h1 := dot_unit (ps.map Prod.fst) i (by rw [List.length_map]; exact h)
  have h2 := dot_unit (ps.map Prod.snd) i (by rw [List.length_map]; exact h)
  rw [List.length_map] at h1 h2
  refine ⟨?_, ?_⟩
  · rw [e, h1, g1]; rfl
  · rw [e, h2, g2]; rfl
theorem rows0_xy (ps : List (Int × Int)) : (rows0 ps).map xy = ps := by
  unfold rows0
  rw [List.map_map]
  apply List.ext_getElem
  · simp
  · intro i h1 h2
    rw [List.getElem_map, List.getElem_range]
    show ((gp ps i).1, (gp ps i).2) = _
    unfold gp
    rw [List.getD_eq_getElem?_getD, List.getElem?_eq_getElem h2]; rfl
end K77
end KL
set_option exponentiation.threshold 100000
/-! k77: form_of, both clearings. -/
namespace KL
namespace K77
open PySem L2
theorem rows0_mem {ps : List (Int × Int)} {r : List Int} (h : r ∈ rows0 ps) : ∃ i, i < ps.length ∧ r = row0 ps i := by
  obtain ⟨i, hi, rfl⟩ := List.mem_map.mp h
  exact ⟨i, List.mem_range.mp hi, rfl⟩
theorem gp_mem {ps : List (Int × Int)} {i : Nat} (h : i < ps.length) : gp ps i ∈ ps := by
  unfold gp
  rw [List.getD_eq_getElem?_getD, List.getElem?_eq_getElem h]
  exact List.getElem_mem h
theorem rows0_size {ps : List (Int × Int)} {k : Nat} (hs : ∀ q ∈ ps, q.1.natAbs ≤ 2 ^ k ∧ q.2.natAbs ≤ 2 ^ k) : ∀ r ∈ rows0 ps, ∀ a ∈ r, a.natAbs ≤ 2 ^ k := by
  intro r hr a ha
  obtain ⟨i, hi, rfl⟩ := rows0_mem hr
  have g := hs _ (gp_mem hi)
  have h1 : 1 ≤ 2 ^ k := Nat.pow_pos (by omega)
  unfold row0 at ha
  rcases List.mem_append.mp ha with ha | ha
  · have : a = (gp ps i).1 ∨ a = (gp ps i).2 := by simpa using ha
    rcases this with rfl | rfl
    · exact g.1
    · exact g.2
  · obtain ⟨j, _, rfl⟩ := List.mem_map.mp ha
    show (if i = j then (1 : Int) else 0).natAbs ≤ 2 ^ k
    split <;> simp <;> omega
theorem rows0_Ok {ps : List (Int × Int)} {k : Nat} (hl : ps.length ≤ 10) (hs : ∀ q ∈ ps, q.1.natAbs ≤ 2 ^ k ∧ q.2.natAbs ≤ 2 ^ k) : Ok 1 (2 + ps.length) 10 (2 ^ (2 * k)) (Says ps) ps (rows0 ps) := by
  refine ⟨fun r hr => ?_, ?_, ⟨2 ^ k, 2 ^ k, rows0_size hs, fun r hr => gr_at (rows0_size hs r hr), Nat.pow_pos (by omega), ?_⟩, fun r hr => ?_, ?_⟩
  · obtain ⟨i, hi, rfl⟩ := rows0_mem hr; exact row0_len ps i
  · unfold rows0; rw [List.length_map, List.length_range]; exact hl
  · rw [← Nat.pow_add]; exact Nat.pow_le_pow_right (by omega) (by omega)
  · obtain ⟨i, hi, rfl⟩ := rows0_mem hr; exact says_row0 hi
  · rw [rows0_xy]; exact Same.refl ps
/-- the first clearing -/
theorem phase1 {ps : List (Int × Int)} {k : Nat} (hl : ps.length ≤ 10) (hk : k ≤ 140) (hs : ∀ q ∈ ps, q.1.natAbs ≤ 2 ^ k ∧ q.2.natAbs ≤ 2 ^ k) :
    ∃ rs1, Ok 1 (2 + ps.length) 10 (2 ^ (6 * k + 24)) (Says ps) ps rs1 ∧ (nz 1 rs1).length ≤ 1 ∧ F_cleared [.va (.lst (rowsD (rows0 ps))), .va (.int 1)] = .fr (rowsD (clr 1 rs1)) [.no, .no] := by
  obtain ⟨rs1, h1, h2, h3⟩ := cleared_fn (p := 1) (c := 2 * k) (k := k) (says_closed ps (2 + ps.length)) (by omega) (by omega) (by omega) (by omega) (rows0_Ok hl hs) (fun r hr => gr_at (rows0_size hs r hr))
  exact ⟨rs1, by rw [show 6 * k + 24 = 2 * k + 4 * k + 2 * 10 + 4 by omega]; exact h1, h2, h3⟩
/-- the second one, of the rows without y -/
theorem phase2 {ps : List (Int × Int)} {k : Nat} {rs1 : List (List Int)} (hk : k ≤ 140) (hl : ps.length ≤ 10) (ok : Ok 1 (2 + ps.length) 10 (2 ^ (6 * k + 24)) (Says ps) ps rs1) :
    ∃ rs2, Ok 0 (2 + ps.length) 10 (2 ^ (36 * k + 168)) (fun r => Says ps r ∧ at_ 1 r = 0) ((zs 1 rs1).map xy) rs2 ∧ (nz 0 rs2).length ≤ 1 ∧ F_cleared [.va (.lst (rowsD (zs 1 rs1))), .va (.int 0)] = .fr (rowsD (clr 0 rs2)) [.no, .no] := by
  have ent : ∀ r ∈ zs 1 rs1, ∀ a ∈ r, a.natAbs ≤ 2 ^ (6 * k + 24) := fun r hr a ha => ok.sm.entry (List.mem_filter.mp hr).1 ha
  have ok2 : Ok 0 (2 + ps.length) 10 (2 ^ (12 * k + 48)) (fun r => Says ps r ∧ at_ 1 r = 0) ((zs 1 rs1).map xy) (zs 1 rs1) := by
    refine ⟨fun r hr => ok.len r (List.mem_filter.mp hr).1, Nat.le_trans (List.length_filter_le _ _) ok.cnt, ⟨_, _, ent, fun r hr => gr_at (ent r hr), Nat.pow_pos (by omega), ?_⟩, fun r hr => ?_, Same.refl _⟩
    · rw [← Nat.pow_add]; exact Nat.pow_le_pow_right (by omega) (by omega)
    · obtain ⟨h1, h2⟩ := List.mem_filter.mp hr
      exact ⟨ok.pr r h1, by simpa using h2⟩
  have cl : Closed (2 + ps.length) (fun r => Says ps r ∧ at_ 1 r = 0) := fun r s q hr hs h1 h2 => ⟨says_closed ps _ r s q hr hs h1.1 h2.1, by rw [at_vless (by omega), h1.2, h2.2]; omega⟩
  obtain ⟨rs2, h1, h2, h3⟩ := cleared_fn (p := 0) (c := 12 * k + 48) (k := 6 * k + 24) cl (by omega) (by omega) (by omega) (by omega) ok2 (fun r hr => gr_at (ent r hr))
  exact ⟨rs2, by rw [show 36 * k + 168 = 12 * k + 48 + 4 * (6 * k + 24) + 2 * 10 + 4 by omega]; exact h1, h2, h3⟩
end K77
end KL
set_option exponentiation.threshold 100000
/-! k77: form_of, its frames. -/
namespace KL
namespace K77
open PySem L2
theorem flt1 {rs : List (List Int)} {p : Nat} {a b c d : Cell} {Δ0 : DEnv} {mi : DEnv → Res (List D)} (hi : mi Δ0 = .ok (rs.map row) [a, b, c, d, .no, .no, .no, .no]) (hl : rs.length < 1000) (hp : ∀ r ∈ rs, p < r.length) :
    lcM [7] mi (tgN 7) (truM (opV ixD 7 (cst (D.int (p : Nat))))) (varM 7) Δ0 = .ok (rowsD (rs.filter fun r => at_ p r != 0)) [a, b, c, d, .no, .no, .no, .no] :=
  lcM_ft (i := row) (o := row) (t := fun r => at_ p r != 0) hi (by omega) rfl fun r hr => ⟨[a, b, c, d, .no, .no, .no, .va (row r)], [a, b, c, d, .no, .no, .no, .va (row r)], rfl, truM_ok (opV_ok rfl rfl (ix_row (hp r hr))) rfl, fun _ => ⟨[a, b, c, d, .no, .no, .no, .va (row r)], rfl, rfl⟩, fun _ => rfl⟩
theorem flt0 {rs : List (List Int)} {p : Nat} {a b c d : Cell} {Δ0 : DEnv} {mi : DEnv → Res (List D)} (hi : mi Δ0 = .ok (rs.map row) [a, b, c, d, .no, .no, .no, .no]) (hl : rs.length < 1000) (hp : ∀ r ∈ rs, p < r.length) :
    lcM [7] mi (tgN 7) (notM (truM (opV ixD 7 (cst (D.int (p : Nat)))))) (varM 7) Δ0 = .ok (rowsD (rs.filter fun r => !(at_ p r != 0))) [a, b, c, d, .no, .no, .no, .no] := by
  refine lcM_ft (i := row) (o := row) (t := fun r => !(at_ p r != 0)) hi (by omega) rfl fun r hr => ?_
  have ht : truM (opV ixD 7 (cst (D.int (p : Nat)))) [a, b, c, d, .no, .no, .no, .va (row r)] = .ok (at_ p r != 0) [a, b, c, d, .no, .no, .no, .va (row r)] := truM_ok (opV_ok rfl rfl (ix_row (hp r hr))) rfl
  refine ⟨[a, b, c, d, .no, .no, .no, .va (row r)], [a, b, c, d, .no, .no, .no, .va (row r)], rfl, ?_, fun _ => ⟨[a, b, c, d, .no, .no, .no, .va (row r)], rfl, rfl⟩, fun _ => rfl⟩
  rw [notM_, ht]; rfl
/-- what both clearings give: low (without y) and high -/
structure Two (ps : List (Int × Int)) (lo hi : List (List Int)) : Prop where
  l1 : lo.length ≤ 1
  h1 : hi.length ≤ 1
  len : ∀ r ∈ lo ++ hi, r.length = 2 + ps.length
  says : ∀ r ∈ lo ++ hi, Says ps r
  low : ∀ r ∈ lo, 0 < at_ 0 r ∧ at_ 1 r = 0
  high : ∀ r ∈ hi, 0 < at_ 1 r
  size : ∀ r ∈ lo ++ hi, ∀ a ∈ r, a.natAbs ≤ 2 ^ 5300
  same : Same ps ((lo ++ hi).map xy)
theorem four {ps : List (Int × Int)} {k : Nat} (hl : ps.length ≤ 10) (hk : k ≤ 140) (hs : ∀ q ∈ ps, q.1.natAbs ≤ 2 ^ k ∧ q.2.natAbs ≤ 2 ^ k) :
    ∃ lo hi, Two ps lo hi ∧ ∃ c1, m_form_of [.va (.lst (pairsD ps)), .no, .no, .no, .no, .no, .no, .no] =
      (sq (ifS (andM (truM (varR 2)) (truM (varR 3))) (setOS 2 (lstM (consM (lstE (callF F_less (aV (opV ixD 2 (cst (D.int 0))) (aV (lstE (callF F_scaled (aV (opV ixD 3 (cst (D.int 0))) (aV (opM divG (opM ixD (opV ixD 2 (cst (D.int 0))) (cst (D.int 0))) (opM ixD (opV ixD 3 (cst (D.int 0))) (cst (D.int 0)))) (cst ([] : List Arg)))))) (cst ([] : List Arg)))))) (cst ([] : List D))))) SRes.nx) (retFS (opV catF 3 (varR 2))))
        [.va (.lst (pairsD ps)), c1, .ow (rowsD hi), .ow (rowsD lo), .no, .no, .no, .no] := by
  obtain ⟨rs1, ok1, n1, f1⟩ := phase1 hl hk hs
  obtain ⟨rs2, ok2, n2, f2⟩ := phase2 hk hl ok1
  have len1 := clr_len (p := 1) ok1.len
  have len2 := clr_len (p := 0) ok2.len
  have cnt1 : (clr 1 rs1).length < 1000 := by
    show (zs 1 rs1 ++ (nz 1 rs1).map (pos 1)).length < 1000
    rw [List.length_append, List.length_map]
    have g1 := List.length_filter_le (fun r => !(at_ 1 r != 0)) rs1
    have g2 := ok1.cnt
    unfold zs
    omega
  have cnt2 : (clr 0 rs2).length < 1000 := by
    show (zs 0 rs2 ++ (nz 0 rs2).map (pos 0)).length < 1000
    rw [List.length_append, List.length_map]
    have g1 := List.length_filter_le (fun r => !(at_ 0 r != 0)) rs2
    have g2 := ok2.cnt
    unfold zs
    omega
  refine ⟨(nz 0 rs2).map (pos 0), (nz 1 rs1).map (pos 1), ?_, .va (.lst (rowsD (clr 1 rs1))), ?_⟩
  · have sP : ∀ {p : Nat} {r : List Int}, Says ps r → Says ps (pos p r) := fun {p r} h => by
      unfold pos
      split
      · exact says_neg h
      · exact h
    have lo_ : ∀ r ∈ (nz 0 rs2).map (pos 0), ∃ s ∈ rs2, at_ 0 s ≠ 0 ∧ r = pos 0 s := fun r hr => by
      obtain ⟨s, hs, rfl⟩ := List.mem_map.mp hr
      obtain ⟨h1, h2⟩ := List.mem_filter.mp hs
      exact ⟨s, h1, by simpa using h2, rfl⟩
    have hi_ : ∀ r ∈ (nz 1 rs1).map (pos 1), ∃ s ∈ rs1, at_ 1 s ≠ 0 ∧ r = pos 1 s := fun r hr => by
      obtain ⟨s, hs, rfl⟩ := List.mem_map.mp hr
      obtain ⟨h1, h2⟩ := List.mem_filter.mp hs
      exact ⟨s, h1, by simpa using h2, rfl⟩
    have e1 : 2 ^ (36 * k + 168) ≤ 2 ^ 5300 := Nat.pow_le_pow_right (by omega) (by omega)
    have e2 : 2 ^ (6 * k + 24) ≤ 2 ^ 5300 := Nat.pow_le_pow_right (by omega) (by omega)
    have c1 := clr_same 1 rs1
    have c2 := clr_same 0 rs2
    refine ⟨by rw [List.length_map]; exact n2, by rw [List.length_map]; exact n1, fun r hr => ?_, fun r hr => ?_, fun r hr => ?_, fun r hr => ?_, fun r hr => ?_, fun q hq => ?_, fun q hq => ?_⟩
    · rcases List.mem_append.mp hr with hr | hr
      · obtain ⟨s, h1, _, rfl⟩ := lo_ r hr; rw [pos_len]; exact ok2.len s h1
      · obtain ⟨s, h1, _, rfl⟩ := hi_ r hr; rw [pos_len]; exact ok1.len s h1
    · rcases List.mem_append.mp hr with hr | hr
      · obtain ⟨s, h1, _, rfl⟩ := lo_ r hr; exact sP (ok2.pr s h1).1
      · obtain ⟨s, h1, _, rfl⟩ := hi_ r hr; exact sP (ok1.pr s h1)
    · obtain ⟨s, h1, h2, rfl⟩ := lo_ r hr
      refine ⟨pos_at 0 h2, ?_⟩
      have := (ok2.pr s h1).2
      rw [at_pos, this]; split <;> rfl
    · obtain ⟨s, h1, h2, rfl⟩ := hi_ r hr; exact pos_at 1 h2
    · rcases List.mem_append.mp hr with hr | hr
      · obtain ⟨s, h1, _, rfl⟩ := lo_ r hr
        exact pos_size fun a ha => Nat.le_trans (ok2.sm.entry h1 ha) e1
      · obtain ⟨s, h1, _, rfl⟩ := hi_ r hr
        exact pos_size fun a ha => Nat.le_trans (ok1.sm.entry h1 ha) e2
    · -- the pairs are sums of the rows
      have t2 : ∀ q ∈ (clr 0 rs2).map xy, Gen (((nz 0 rs2).map (pos 0) ++ (nz 1 rs1).map (pos 1)).map xy) q.1 q.2 := fun q hq => by
        obtain ⟨r, hr, rfl⟩ := List.mem_map.mp hq
        rcases List.mem_append.mp (show r ∈ zs 0 rs2 ++ (nz 0 rs2).map (pos 0) from hr) with h | h
        · obtain ⟨h1, h2⟩ := List.mem_filter.mp h
          have g1 : at_ 0 r = 0 := by simpa using h2
          have g2 := (ok2.pr r h1).2
          exact Gen.zero.cast g1.symm g2.symm
        · exact Gen.mem (p := xy r) (List.mem_map.mpr ⟨r, List.mem_append_left _ h, rfl⟩)
      have t1 : ∀ q ∈ (clr 1 rs1).map xy, Gen (((nz 0 rs2).map (pos 0) ++ (nz 1 rs1).map (pos 1)).map xy) q.1 q.2 := fun q hq => by
        obtain ⟨r, hr, rfl⟩ := List.mem_map.mp hq
        rcases List.mem_append.mp (show r ∈ zs 1 rs1 ++ (nz 1 rs1).map (pos 1) from hr) with h | h
        · exact ((ok2.same.1 (xy r) (List.mem_map.mpr ⟨r, h, rfl⟩)).of c2.1).of t2
        · exact Gen.mem (p := xy r) (List.mem_map.mpr ⟨r, List.mem_append_right _ h, rfl⟩)
      exact ((ok1.same.1 q hq).of c1.1).of t1
    · obtain ⟨r, hr, rfl⟩ := List.mem_map.mp hq
      have back1 : ∀ q ∈ (clr 1 rs1).map xy, Gen ps q.1 q.2 := fun q hq => (c1.2 q hq).of ok1.same.2
      rcases List.mem_append.mp hr with h | h
      · have g1 := (c2.2 (xy r) (List.mem_map.mpr ⟨r, List.mem_append_right _ h, rfl⟩)).of ok2.same.2
        refine g1.of fun q hq => ?_
        obtain ⟨s, hs, rfl⟩ := List.mem_map.mp hq
        exact back1 _ (List.mem_map.mpr ⟨s, List.mem_append_left _ hs, rfl⟩)
      · exact back1 _ (List.mem_map.mpr ⟨r, List.mem_append_right _ h, rfl⟩)
  · have s1 := setOS_ok (i := 1) (rows0_ok (ps := ps) (by omega)) rfl
    have s2 : callF F_cleared (aV (varM 1) (aV (cst (D.int 1)) (cst ([] : List Arg)))) [.va (.lst (pairsD ps)), .ow (rowsD (rows0 ps)), .no, .no, .no, .no, .no, .no] = .ok (rowsD (clr 1 rs1)) [.va (.lst (pairsD ps)), .va (.lst (rowsD (rows0 ps))), .no, .no, .no, .no, .no, .no] := callV2f rfl rfl f1
    have s3 := flt1 (rs := clr 1 rs1) (p := 1) (a := .va (.lst (pairsD ps))) (b := .va (.lst (rowsD (clr 1 rs1)))) (c := .no) (d := .no) (Δ0 := [.va (.lst (pairsD ps)), .ow (rowsD (clr 1 rs1)), .no, .no, .no, .no, .no, .no]) (mi := seqA (varM 1)) rfl cnt1 (fun r hr => by rw [len1 r hr]; omega)
    rw [clr_nz] at s3
    have s4 := flt0 (rs := clr 1 rs1) (p := 1) (a := .va (.lst (pairsD ps))) (b := .va (.lst (rowsD (clr 1 rs1)))) (c := .ow (rowsD ((nz 1 rs1).map (pos 1)))) (d := .no) (Δ0 := [.va (.lst (pairsD ps)), .va (.lst (rowsD (clr 1 rs1))), .ow (rowsD ((nz 1 rs1).map (pos 1))), .no, .no, .no, .no, .no]) (mi := seqA (varM 1)) rfl cnt1 (fun r hr => by rw [len1 r hr]; omega)
    rw [clr_zs] at s4
    have s5 := flt1 (rs := clr 0 rs2) (p := 0) (a := .va (.lst (pairsD ps))) (b := .va (.lst (rowsD (clr 1 rs1)))) (c := .ow (rowsD ((nz 1 rs1).map (pos 1)))) (d := .no) (Δ0 := [.va (.lst (pairsD ps)), .va (.lst (rowsD (clr 1 rs1))), .ow (rowsD ((nz 1 rs1).map (pos 1))), .no, .no, .no, .no, .no]) (mi := seqA (lstE (callF F_cleared (aV (lstE (lcM [7] (seqA (varM 1)) (tgN 7) (notM (truM (opV ixD 7 (cst (D.int 1))))) (varM 7))) (aV (cst (D.int 0)) (cst ([] : List Arg))))))) (seqA_lst (lstE_ok (callV2f (lstE_ok s4) rfl f2))) cnt2 (fun r hr => by rw [len2 r hr]; omega)
    rw [clr_nz] at s5
    unfold m_form_of
    refine (sq_nx s1).trans ?_
    refine (sq_nx (Δ1 := [.va (.lst (pairsD ps)), .ow (rowsD (clr 1 rs1)), .no, .no, .no, .no, .no, .no]) (setOS_ok s2 rfl)).trans ?_
    refine (sq_nx (Δ1 := [.va (.lst (pairsD ps)), .va (.lst (rowsD (clr 1 rs1))), .ow (rowsD ((nz 1 rs1).map (pos 1))), .no, .no, .no, .no, .no]) (setOS_ok s3 rfl)).trans ?_
    refine (sq_nx (Δ1 := [.va (.lst (pairsD ps)), .va (.lst (rowsD (clr 1 rs1))), .ow (rowsD ((nz 1 rs1).map (pos 1))), .ow (rowsD ((nz 0 rs2).map (pos 0))), .no, .no, .no, .no]) (setOS_ok s5 rfl)).trans ?_
    rfl
end K77
end KL
set_option exponentiation.threshold 100000
/-! k77: form_of, the whole of it. -/
namespace KL
namespace K77
open PySem L2
/-- the least rows -/
inductive Shape : List (List Int) → Prop
  | zero : Shape []
  | low {l : List Int} : 0 < at_ 0 l → at_ 1 l = 0 → Shape [l]
  | high {h : List Int} : 0 < at_ 1 h → Shape [h]
  | both {l h : List Int} : 0 < at_ 0 l → at_ 1 l = 0 → 0 < at_ 1 h → 0 ≤ at_ 0 h → at_ 0 h < at_ 0 l → Shape [l, h]
structure FormOk (ps : List (Int × Int)) (fs : List (List Int)) : Prop where
  len : ∀ r ∈ fs, r.length = 2 + ps.length
  says : ∀ r ∈ fs, Says ps r
  same : Same ps (fs.map xy)
  shape : Shape fs
  size : ∀ r ∈ fs, ∀ a ∈ r, a.natAbs ≤ 2 ^ 10700
  col : ∀ r ∈ fs, (at_ 0 r).natAbs ≤ 2 ^ 5300 ∧ (at_ 1 r).natAbs ≤ 2 ^ 5300
theorem list1 {α : Type} {l : List α} (h : l.length ≤ 1) : l = [] ∨ ∃ a, l = [a] := by
  match l, h with
  | [], _ => exact .inl rfl
  | [a], _ => exact .inr ⟨a, rfl⟩
  | _ :: _ :: _, h => simp at h
theorem plain {ps : List (Int × Int)} {lo hi : List (List Int)} (T : Two ps lo hi) (h : lo = [] ∨ hi = []) : FormOk ps (lo ++ hi) := by
  refine ⟨T.len, T.says, T.same, ?_, fun r hr a ha => Nat.le_trans (T.size r hr a ha) (Nat.pow_le_pow_right (by omega) (by omega)), fun r hr => ⟨gr_at (T.size r hr), gr_at (T.size r hr)⟩⟩
  rcases h with rfl | rfl
  · rcases list1 T.h1 with rfl | ⟨h, rfl⟩
    · exact .zero
    · exact .high (T.high h (by simp))
  · rcases list1 T.l1 with rfl | ⟨l, rfl⟩
    · exact .zero
    · exact .low (T.low l (by simp)).1 (T.low l (by simp)).2
theorem less_both {ps : List (Int × Int)} {l h : List Int} (T : Two ps [l] [h]) : FormOk ps [l, vless h l ((at_ 0 h).fdiv (at_ 0 l))] := by
  have hl := T.len l (by simp)
  have hh := T.len h (by simp)
  have e : l.length = h.length := by omega
  obtain ⟨g1, g2⟩ := T.low l (by simp)
  have g3 := T.high h (by simp)
  have a0 : at_ 0 (vless h l ((at_ 0 h).fdiv (at_ 0 l))) = (at_ 0 h).fmod (at_ 0 l) := by
    rw [at_vless e]
    have := Int.mul_fdiv_add_fmod (at_ 0 h) (at_ 0 l)
    omega
  have a1 : at_ 1 (vless h l ((at_ 0 h).fdiv (at_ 0 l))) = at_ 1 h := by rw [at_vless e, g2]; omega
  have s1 := T.size l (by simp)
  have s2 := T.size h (by simp)
  have m1 := Int.fmod_nonneg_of_pos (at_ 0 h) g1
  have m2 := Int.fmod_lt_of_pos (at_ 0 h) g1
  have hq := fdiv_abs (a := at_ 0 h) (b := at_ 0 l)
  have hq2 := gr_at (p := 0) s2
  refine ⟨fun r hr => ?_, fun r hr => ?_, ?_, .both g1 g2 (by rw [a1]; exact g3) (by rw [a0]; exact m1) (by rw [a0]; exact m2), fun r hr a ha => ?_, fun r hr => ?_⟩
  · have : r = l ∨ r = vless h l ((at_ 0 h).fdiv (at_ 0 l)) := by simpa using hr
    rcases this with rfl | rfl
    · exact hl
    · rw [vless_len e]; exact hh
  · have : r = l ∨ r = vless h l ((at_ 0 h).fdiv (at_ 0 l)) := by simpa using hr
    rcases this with rfl | rfl
    · exact T.says _ (by simp)
    · exact says_closed ps _ h l _ hh hl (T.says h (by simp)) (T.says l (by simp))
  · refine T.same.trans ⟨fun q hq => ?_, fun q hq => ?_⟩
    · have : q = xy l ∨ q = xy h := by simpa using hq
      have gl : Gen (List.map xy [l, vless h l ((at_ 0 h).fdiv (at_ 0 l))]) (at_ 0 l) (at_ 1 l) := Gen.mem (p := xy l) (by simp)
      rcases this with rfl | rfl
      · exact gl
      · exact Gen.unless _ ((Gen.mem (S := List.map xy [l, vless h l ((at_ 0 h).fdiv (at_ 0 l))]) (p := xy (vless h l ((at_ 0 h).fdiv (at_ 0 l)))) (by simp)).cast (at_vless e 0) (at_vless e 1)) gl
    · have : q = xy l ∨ q = xy (vless h l ((at_ 0 h).fdiv (at_ 0 l))) := by simpa using hq
      have gl : Gen (List.map xy ([l] ++ [h])) (at_ 0 l) (at_ 1 l) := Gen.mem (p := xy l) (by simp)
      have gh : Gen (List.map xy ([l] ++ [h])) (at_ 0 h) (at_ 1 h) := Gen.mem (p := xy h) (by simp)
      rcases this with rfl | rfl
      · exact gl
      · exact (Gen.less _ gh gl).cast (at_vless e 0).symm (at_vless e 1).symm
  · have : r = l ∨ r = vless h l ((at_ 0 h).fdiv (at_ 0 l)) := by simpa using hr
    rcases this with rfl | rfl
    · exact Nat.le_trans (s1 a ha) (Nat.pow_le_pow_right (by omega) (by omega))
    · have b1 := vless_size (Q := 2 ^ 5300 + 1) s2 s1 (by omega) a ha
      refine Nat.le_trans b1 ?_
      have b2 : 2 ^ 5300 + 1 + 1 ≤ 2 ^ 5301 := by rw [Nat.pow_succ]; have : 2 ≤ 2 ^ 5300 := by { have := Nat.pow_le_pow_right (n := 2) (by omega) (show 1 ≤ 5300 by omega); simpa using this }; omega
      refine Nat.le_trans (Nat.mul_le_mul_left _ b2) ?_
      rw [← Nat.pow_add]
      exact Nat.pow_le_pow_right (by omega) (by omega)
  · have : r = l ∨ r = vless h l ((at_ 0 h).fdiv (at_ 0 l)) := by simpa using hr
    rcases this with rfl | rfl
    · exact ⟨gr_at s1, gr_at s1⟩
    · rw [a0, a1]
      have := gr_at (p := 0) s1
      exact ⟨by omega, gr_at s2⟩
end K77
end KL
set_option exponentiation.threshold 100000
/-! k77: form_of read. -/
namespace KL
namespace K77
open PySem L2
theorem form_fn {ps : List (Int × Int)} {k : Nat} (hl : ps.length ≤ 10) (hk : k ≤ 140) (hs : ∀ q ∈ ps, q.1.natAbs ≤ 2 ^ k ∧ q.2.natAbs ≤ 2 ^ k) : ∃ fs, FormOk ps fs ∧ F_form_of [.va (.lst (pairsD ps))] = .fr (rowsD fs) [.no] := by
  obtain ⟨lo, hi, T, c1, h4⟩ := four hl hk hs
  unfold F_form_of
  rw [bodyF_]
  -- the end
  have fin : ∀ (hi' : List (List Int)), FormOk ps (lo ++ hi') → (retFS (opV catF 3 (varR 2))) [.va (.lst (pairsD ps)), c1, .ow (rowsD hi'), .ow (rowsD lo), .no, .no, .no, .no] = .rf (rowsD (lo ++ hi')) [.va (.lst (pairsD ps)), c1, .ow (rowsD hi'), .ow (rowsD lo), .no, .no, .no, .no] := fun hi' ok => by
    refine retFS_ok (opV_ok rfl rfl ?_)
    have e9 : rowsD (lo ++ hi') = rowsD lo ++ rowsD hi' := by unfold rowsD; rw [List.map_append]
    have hlen : (lo ++ hi').length ≤ 2 := by
      have := ok.shape
      generalize lo ++ hi' = z at this
      cases this <;> simp
    rw [e9]
    refine catF_ok ?_
    unfold rowsD
    rw [List.length_map, List.length_map]
    rw [List.length_append] at hlen
    omega
  have out : ∀ (hi' : List (List Int)), FormOk ps (lo ++ hi') → m_form_of [.va (.lst (pairsD ps)), .no, .no, .no, .no, .no, .no, .no] = .rf (rowsD (lo ++ hi')) [.va (.lst (pairsD ps)), c1, .ow (rowsD hi'), .ow (rowsD lo), .no, .no, .no, .no] → ∃ fs, FormOk ps fs ∧ (m_form_of ([.va (.lst (pairsD ps))] ++ List.replicate (8 - 1) .no)).fin 1 = .fr (rowsD fs) [.no] := fun hi' ok e => by
    refine ⟨lo ++ hi', ok, ?_⟩
    show (m_form_of [.va (.lst (pairsD ps)), .no, .no, .no, .no, .no, .no, .no]).fin 1 = _
    rw [e]
    show FRes.fr _ (kpD 1 _) = _
    rw [kpD_map (by show 1 ≤ 8; omega)]
    rfl
  rcases list1 T.l1 with e | ⟨l, e⟩
  · refine out hi (plain T (.inl e)) (h4.trans ?_)
    subst e
    rcases list1 T.h1 with e | ⟨h, e⟩
    · subst e; exact (sq_nx rfl).trans (fin _ (plain T (.inl rfl)))
    · subst e; exact (sq_nx rfl).trans (fin _ (plain T (.inl rfl)))
  · rcases list1 T.h1 with e2 | ⟨h, e2⟩
    · refine out hi (plain T (.inr e2)) (h4.trans ?_)
      subst e e2
      exact (sq_nx rfl).trans (fin _ (plain T (.inr rfl)))
    · subst e e2
      have ok := less_both T
      refine out [vless h l ((at_ 0 h).fdiv (at_ 0 l))] ok (h4.trans ?_)
      refine (sq_nx (Δ1 := [.va (.lst (pairsD ps)), c1, .ow (rowsD [vless h l ((at_ 0 h).fdiv (at_ 0 l))]), .ow (rowsD [l]), .no, .no, .no, .no]) ?_).trans (fin _ ok)
      have hll := T.len l (by simp)
      have hhl := T.len h (by simp)
      have ih0 := ix_row (r := h) (p := 0) (by omega)
      have il0 := ix_row (r := l) (p := 0) (by omega)
      obtain ⟨g1, g2⟩ := T.low l (by simp)
      have s1 := T.size l (by simp)
      have s2 := T.size h (by simp)
      have hd : divG (.int (at_ 0 h)) (.int (at_ 0 l)) = some (.int ((at_ 0 h).fdiv (at_ 0 l))) := divG_int (by omega) (Nat.lt_of_le_of_lt (gr_at (p := 0) s1) (Nat.pow_lt_pow_right (by omega) (by omega)))
      have hq : ((at_ 0 h).fdiv (at_ 0 l)).natAbs < 2 ^ 5302 := by
        have a1 := fdiv_abs (a := at_ 0 h) (b := at_ 0 l)
        have a2 := gr_at (p := 0) s2
        have a3 : 2 ^ 5302 = 2 ^ 5300 * 4 := by rw [show (5302 : Nat) = 5300 + 2 by rfl, Nat.pow_add]
        have a4 : 1 ≤ 2 ^ 5300 := Nat.pow_pos (by omega)
        omega
      have sl : Sz 5301 l := fun a ha => Nat.lt_of_le_of_lt (s1 a ha) (Nat.pow_lt_pow_right (by omega) (by omega))
      have q1 : opM divG (opM ixD (opV ixD 2 (cst (D.int 0))) (cst (D.int 0))) (opM ixD (opV ixD 3 (cst (D.int 0))) (cst (D.int 0))) [.va (.lst (pairsD ps)), c1, .ow (rowsD [h]), .ow (rowsD [l]), .no, .no, .no, .no] = .ok (.int ((at_ 0 h).fdiv (at_ 0 l))) [.va (.lst (pairsD ps)), c1, .ow (rowsD [h]), .ow (rowsD [l]), .no, .no, .no, .no] :=
        opM_ok (opM_ok (opV_ok (y := .int 0) (z := row h) rfl rfl rfl) rfl ih0) (opM_ok (opV_ok (y := .int 0) (z := row l) rfl rfl rfl) rfl il0) hd
      have q2 : callF F_scaled (aV (opV ixD 3 (cst (D.int 0))) (aV (opM divG (opM ixD (opV ixD 2 (cst (D.int 0))) (cst (D.int 0))) (opM ixD (opV ixD 3 (cst (D.int 0))) (cst (D.int 0)))) (cst ([] : List Arg)))) [.va (.lst (pairsD ps)), c1, .ow (rowsD [h]), .ow (rowsD [l]), .no, .no, .no, .no] = .ok ((l.map (· * (at_ 0 h).fdiv (at_ 0 l))).map D.int) [.va (.lst (pairsD ps)), c1, .ow (rowsD [h]), .ow (rowsD [l]), .no, .no, .no, .no] :=
        callV2f (opV_ok (y := .int 0) (z := row l) rfl rfl rfl) q1 (scaled_ok (by omega) sl hq (by omega))
      have q3 := callV2f (F := F_less) (m := opV ixD 2 (cst (D.int 0))) (opV_ok (y := .int 0) (z := row h) (Δ := [.va (.lst (pairsD ps)), c1, .ow (rowsD [h]), .ow (rowsD [l]), .no, .no, .no, .no]) rfl rfl rfl) (lstE_ok q2) (less_ok (s := l.map (· * (at_ 0 h).fdiv (at_ 0 l))) (by omega) (by rw [List.length_map]; omega))
      have t : andM (truM (varR 2)) (truM (varR 3)) [.va (.lst (pairsD ps)), c1, .ow (rowsD [h]), .ow (rowsD [l]), .no, .no, .no, .no] = .ok true [.va (.lst (pairsD ps)), c1, .ow (rowsD [h]), .ow (rowsD [l]), .no, .no, .no, .no] := rfl
      rw [ifS_ok t, if_pos rfl]
      exact setOS_ok (lstM_ok (consM_ok (lstE_ok q3) rfl) (by show 1 ≤ 16777216; omega)) rfl
end K77
end KL
set_option exponentiation.threshold 100000
/-! k77: check_pairs. -/
namespace KL
namespace K77
open PySem L2
theorem whole_int (a : Int) : F_is_whole_number [.va (.int a)] = .ok (.bl true) [.no] := rfl
theorem check_one (d0 : Cell) (c1 : Cell) (q : Int × Int) : check_pairs_b1 [d0, .va (pr q), .no] = .nx [d0, .va (pr q), .no] := by
  have t1 : notM (truM (isisM ["list", "tuple"] (varM 1))) [d0, .va (pr q), .no] = .ok false [d0, .va (pr q), .no] := rfl
  have t2 : asB (opM neD (call1 lenD (varR 1)) (cst (D.int 2))) [d0, .va (pr q), .no] = .ok false [d0, .va (pr q), .no] := rfl
  have t3 : lcM [2] (seqA (varM 1)) (tgN 2) (notM (truM (callM F_is_whole_number (aV (varM 2) (cst ([] : List Arg)))))) (varM 2) [d0, .va (pr q), .no] = .ok ((([q.1, q.2] : List Int).filter fun _ => false).map D.int) [d0, .va (pr q), .no] := by
    refine lcM_ft (i := D.int) (xs := [q.1, q.2]) (t := fun _ => false) (seqA_tup rfl) (by show 2 < 16777216; omega) rfl fun a _ => ?_
    have c : callM F_is_whole_number (aV (varM 2) (cst ([] : List Arg))) [d0, .va (pr q), .va (.int a)] = .ok (.bl true) [d0, .va (pr q), .va (.int a)] := callV1 rfl (whole_int a)
    refine ⟨[d0, .va (pr q), .va (.int a)], [d0, .va (pr q), .va (.int a)], rfl, ?_, fun z => Bool.noConfusion z, fun _ => rfl⟩
    rw [notM_, truM_ok c rfl]; rfl
  have t4 : truM (lstE (lcM [2] (seqA (varM 1)) (tgN 2) (notM (truM (callM F_is_whole_number (aV (varM 2) (cst ([] : List Arg)))))) (varM 2))) [d0, .va (pr q), .no] = .ok false [d0, .va (pr q), .no] := truM_ok (lstE_ok t3) rfl
  unfold check_pairs_b1
  rw [ifS_ok (or_ok t1 (or_ok t2 t4)), if_neg (by decide)]
end K77
end KL
set_option exponentiation.threshold 100000
/-! k77: check_pairs, sums_of. -/
namespace KL
namespace K77
open PySem L2
theorem check_loop : ∀ (ps : List (Int × Int)) (d0 c1 : Cell), canC c1 = true → ∃ c1', canC c1' = true ∧ forM (tgN 1) check_pairs_b1 (pairsD ps) [d0, c1, .no] = .nx [d0, c1', .no]
  | [], d0, c1, h => ⟨c1, h, rfl⟩
  | q :: ps, d0, c1, h => by
    obtain ⟨c, hc, e⟩ := check_loop ps d0 (.va (pr q)) rfl
    refine ⟨c, hc, ?_⟩
    have ht : tgN 1 (pr q) [d0, c1, .no] = some [d0, .va (pr q), .no] := tgN_ (can_ (c := c1) rfl h)
    show forM (tgN 1) check_pairs_b1 (pr q :: pairsD ps) [d0, c1, .no] = _
    rw [forM_cons ht, check_one d0 c1 q, loop_nx, e]
theorem check_lst (ps : List (Int × Int)) : F_check_pairs [.va (.lst (pairsD ps))] = .ok .non [.no] := by
  obtain ⟨c, hc, e⟩ := check_loop ps (.va (.lst (pairsD ps))) .no rfl
  unfold F_check_pairs
  rw [bodyF_]
  show (m_check_pairs [.va (.lst (pairsD ps)), .no, .no]).fin 1 = _
  have h : m_check_pairs [.va (.lst (pairsD ps)), .no, .no] = .nx [.va (.lst (pairsD ps)), c, .no] := by
    unfold m_check_pairs
    refine (sq_nx (Δ1 := [.va (.lst (pairsD ps)), .no, .no]) rfl).trans ?_
    have s : seqA (varM 0) [.va (.lst (pairsD ps)), .no, .no] = .ok (pairsD ps) [.va (.lst (pairsD ps)), .no, .no] := rfl
    rw [forS_, s, s_ok_, e]
  rw [h]
  show FRes.ok .non (kpD 1 _) = _
  rw [kpD_map (by show 1 ≤ 3; omega)]
  rfl
end K77
end KL
set_option exponentiation.threshold 100000
/-! k77: sums_of. -/
namespace KL
namespace K77
open PySem L2
theorem cut2 (a b : Int) (t : List Int) : slAD (row (a :: b :: t)) none (some 2) = some (.lst [.int a, .int b]) := by
  show some (D.lst (cutL ((a :: b :: t).map D.int) none (some 2))) = _
  unfold cutL HT.sIx
  simp
theorem sums_fn {ps : List (Int × Int)} {k : Nat} (hl : ps.length ≤ 10) (hk : k ≤ 140) (hs : ∀ q ∈ ps, q.1.natAbs ≤ 2 ^ k ∧ q.2.natAbs ≤ 2 ^ k) : ∃ fs, FormOk ps fs ∧ F_form_of [.va (.lst (pairsD ps))] = .fr (rowsD fs) [.no] ∧ F_sums_of [.va (.lst (pairsD ps))] = .ok (.tup (pairsD (fs.map xy))) [.no] := by
  obtain ⟨fs, ok, e⟩ := form_fn hl hk hs
  refine ⟨fs, ok, e, ?_⟩
  have hfl : fs.length ≤ 2 := by
    have := ok.shape
    cases this <;> simp
  have h1 : lcM [1] (seqA (lstE (callF F_form_of (aV (varM 0) (cst ([] : List Arg)))))) (tgN 1) (cst true) (call1 tupD (slM slAD (varM 1) (cst (none : Option Int)) (someM (cst (D.int 2))))) [.va (.lst (pairsD ps)), .no] = .ok (fs.map fun r => pr (xy r)) [.va (.lst (pairsD ps)), .no] := by
    refine lcM_mt (i := row) (seqA_lst (lstE_ok (callV1f rfl e))) (by omega) rfl fun r hr => ?_
    refine ⟨[.va (.lst (pairsD ps)), .va (row r)], [.va (.lst (pairsD ps)), .va (row r)], rfl, ?_, rfl⟩
    have hlen := ok.len r hr
    match r, hlen with
    | a :: b :: t, _ =>
      have e2 : slM slAD (varM 1) (cst (none : Option Int)) (someM (cst (D.int 2))) [.va (.lst (pairsD ps)), .va (row (a :: b :: t))] = .ok (.lst [.int a, .int b]) [.va (.lst (pairsD ps)), .va (row (a :: b :: t))] := by
        have v : varM 1 [.va (.lst (pairsD ps)), .va (row (a :: b :: t))] = .ok (row (a :: b :: t)) [.va (.lst (pairsD ps)), .va (row (a :: b :: t))] := rfl
        rw [slM_, v, bind_ok_, bind_ok_, someM_, bind_ok_, bind_ok_, cut2]; rfl
      exact call1_ok e2 rfl
    | [], h => simp at h; omega
    | [_], h => simp at h; omega
  unfold F_sums_of
  rw [bodyF_]
  show (m_sums_of [.va (.lst (pairsD ps)), .no]).fin 1 = _
  have h : m_sums_of [.va (.lst (pairsD ps)), .no] = .rt (.tup (pairsD (fs.map xy))) [.va (.lst (pairsD ps)), .no] := by
    unfold m_sums_of
    have c : callM F_check_pairs (aV (varM 0) (cst ([] : List Arg))) [.va (.lst (pairsD ps)), .no] = .ok .non [.va (.lst (pairsD ps)), .no] := callV1 rfl (check_lst ps)
    refine (sq_nx (Δ1 := [.va (.lst (pairsD ps)), .no]) (by rw [exprS_, c]; rfl)).trans ?_
    refine retS_ok (call1_ok (lstE_ok h1) ?_)
    show some (D.tup (fs.map fun r => pr (xy r))) = some (D.tup ((fs.map xy).map pr))
    rw [List.map_map]; rfl
  rw [h]
  show FRes.ok _ (kpD 1 _) = _
  rw [kpD_map (by show 1 ≤ 2; omega)]
  rfl
end K77
end KL
/-! k77: sums of the least rows, by dividing. -/
namespace KL
namespace K77
theorem fmod_zero {a x : Int} : a.fmod x = 0 ↔ ∃ k, a = k * x := by
  refine ⟨fun h => ⟨a.fdiv x, ?_⟩, fun ⟨k, h⟩ => ?_⟩
  · have := Int.mul_fdiv_add_fmod a x
    rw [h] at this
    rw [Int.mul_comm]; omega
  · rw [h]; exact Int.mul_fmod_left k x
theorem in_low {x a b : Int} : Gen [(x, 0)] a b ↔ b = 0 ∧ a.fmod x = 0 := by
  rw [gen_one, fmod_zero]
  refine ⟨fun ⟨k, h1, h2⟩ => ⟨by rw [h2, Int.mul_zero], k, h1⟩, fun ⟨h1, k, h2⟩ => ⟨k, h2, by rw [h1, Int.mul_zero]⟩⟩
theorem in_high {x y a b : Int} (hy : 0 < y) : Gen [(x, y)] a b ↔ b.fmod y = 0 ∧ a = b.fdiv y * x := by
  rw [gen_one]
  refine ⟨fun ⟨k, h1, h2⟩ => ?_, fun ⟨h1, h2⟩ => ⟨b.fdiv y, h2, ?_⟩⟩
  · have e : b.fdiv y = k := by rw [h2]; exact Int.mul_fdiv_cancel k (by omega)
    exact ⟨by rw [h2]; exact Int.mul_fmod_left k y, by rw [e]; exact h1⟩
  · have := Int.mul_fdiv_add_fmod b y
    rw [h1] at this
    rw [Int.mul_comm]; omega
theorem in_both {l x y a b : Int} (hy : 0 < y) : Gen [(l, 0), (x, y)] a b ↔ b.fmod y = 0 ∧ (a - b.fdiv y * x).fmod l = 0 := by
  rw [gen_two]
  refine ⟨fun ⟨k, m, h1, h2⟩ => ?_, fun ⟨h1, h2⟩ => ?_⟩
  · have h3 : b = m * y := by rw [h2, Int.mul_zero]; omega
    have e : b.fdiv y = m := by rw [h3]; exact Int.mul_fdiv_cancel m (by omega)
    exact ⟨by rw [h3]; exact Int.mul_fmod_left m y, fmod_zero.mpr ⟨k, by rw [e, h1]; omega⟩⟩
  · obtain ⟨k, h2⟩ := fmod_zero.mp h2
    have := Int.mul_fdiv_add_fmod b y
    rw [h1] at this
    exact ⟨k, b.fdiv y, by omega, by rw [Int.mul_zero, Int.mul_comm (b.fdiv y)]; omega⟩
end K77
end KL
/-! k77: numbers that sum to a goal, as plain mathematics. -/
namespace KL
namespace K77
/-- numbers with so many times others more -/
def plus (cs ds : List Int) (t : Int) : List Int := List.zipWith (fun a b => a + b * t) cs ds
theorem plus_len {cs ds : List Int} {t : Int} (h : ds.length = cs.length) : (plus cs ds t).length = cs.length := by
  unfold plus; rw [List.length_zipWith]; omega
theorem dot_plus : ∀ (xs cs ds : List Int) (t : Int), ds.length = cs.length → dot xs (plus cs ds t) = dot xs cs + dot xs ds * t
  | [], _, _, _, _ => by simp [dot]
  | _ :: _, [], ds, _, h => by
    have : ds = [] := List.eq_nil_of_length_eq_zero (by simpa using h)
    subst this; simp [dot, plus]
  | x :: xs, c :: cs, [], _, h => by simp at h
  | x :: xs, c :: cs, d :: ds, t, h => by
    have ih := dot_plus xs cs ds t (by simpa using h)
    show dot (x :: xs) ((c + d * t) :: plus cs ds t) = _
    rw [dot_cons, dot_cons, dot_cons, ih, Int.mul_add, Int.add_mul, ← Int.mul_assoc]
    omega
theorem gen_dot : ∀ (ps : List (Int × Int)) (cs : List Int), Gen ps (dot (ps.map Prod.fst) cs) (dot (ps.map Prod.snd) cs)
  | [], _ => by simpa [dot] using Gen.zero
  | _ :: _, [] => by simpa [dot] using Gen.zero
  | p :: ps, c :: cs => by
    have ih := (gen_dot ps cs).of (T := p :: ps) fun q hq => Gen.mem (List.mem_cons_of_mem _ hq)
    rw [List.map_cons, List.map_cons, dot_cons, dot_cons]
    exact (Gen.add (p := p) (by simp) c ih).cast (by rw [Int.mul_comm]; omega) (by rw [Int.mul_comm]; omega)
/-- what numbers_for keeps: the goal is what is left and the numbers' sum -/
structure Num (ps : List (Int × Int)) (g : Int × Int) (rest nums : List Int) : Prop where
  r2 : rest.length = 2
  nl : nums.length = ps.length
  x : g.1 = at_ 0 rest + dot (ps.map Prod.fst) nums
  y : g.2 = at_ 1 rest + dot (ps.map Prod.snd) nums
/-- the place at which a row is taken -/
def plc (r : List Int) : Nat := if at_ 1 r ≠ 0 then 1 else 0
def tms (rest r : List Int) : Int := (at_ (plc r) rest).fdiv (at_ (plc r) r)
def nrest (rest r : List Int) : List Int := vless rest (r.take 2) (tms rest r)
def nnums (nums rest r : List Int) : List Int := plus nums (r.drop 2) (tms rest r)
theorem at_take {r : List Int} {j : Nat} (h : j < 2) : at_ j (r.take 2) = at_ j r := by
  unfold at_
  rw [List.getD_eq_getElem?_getD, List.getD_eq_getElem?_getD, List.getElem?_take, if_pos h]
theorem at_nrest {rest r : List Int} {j : Nat} (h2 : rest.length = 2) (hr : 2 ≤ r.length) (h : j < 2) : at_ j (nrest rest r) = at_ j rest - at_ j r * tms rest r := by
  unfold nrest
  rw [at_vless (by rw [List.length_take, h2]; omega), at_take h]
theorem Num.step {ps : List (Int × Int)} {g : Int × Int} {rest nums r : List Int} (h : Num ps g rest nums) (hr : r.length = 2 + ps.length) (hs : Says ps r) : Num ps g (nrest rest r) (nnums nums rest r) := by
  have hd : (r.drop 2).length = nums.length := by rw [List.length_drop, hr, h.nl]; omega
  refine ⟨?_, ?_, ?_, ?_⟩
  · unfold nrest; rw [vless_len (by rw [List.length_take, h.r2]; omega)]; exact h.r2
  · unfold nnums; rw [plus_len hd]; exact h.nl
  · rw [at_nrest h.r2 (by omega) (by omega)]
    unfold nnums
    rw [dot_plus _ _ _ _ hd, ← hs.1]; have := h.x; omega
  · rw [at_nrest h.r2 (by omega) (by omega)]
    unfold nnums
    rw [dot_plus _ _ _ _ hd, ← hs.2]; have := h.y; omega
theorem Num.start (ps : List (Int × Int)) (g : Int × Int) : Num ps g [g.1, g.2] (List.replicate ps.length 0) := by
  have z : ∀ (xs : List Int) (n : Nat), dot xs (List.replicate n 0) = 0 := by
    intro xs
    induction xs with
    | nil => intro n; simp [dot]
    | cons x xs ih =>
      intro n
      cases n with
      | zero => simp [dot]
      | succ n => rw [List.replicate_succ, dot_cons, ih]; omega
  refine ⟨rfl, by simp, ?_, ?_⟩
  · rw [z]; show g.1 = g.1 + 0; omega
  · rw [z]; show g.2 = g.2 + 0; omega
theorem Num.gen {ps : List (Int × Int)} {g : Int × Int} {rest nums : List Int} (h : Num ps g rest nums) (h0 : at_ 0 rest = 0) (h1 : at_ 1 rest = 0) : Gen ps g.1 g.2 := by
  have h2 := h.x
  have h3 := h.y
  rw [h0] at h2
  rw [h1] at h3
  exact (gen_dot ps nums).cast (by omega) (by omega)
/-- what is left behind all rows -/
def lft : List (List Int) → List Int → List Int
  | [], rest => rest
  | r :: rs, rest => lft rs (nrest rest r)
theorem fdm (a b : Int) : a - b * a.fdiv b = a.fmod b := by
  have := Int.mul_fdiv_add_fmod a b
  omega
/-- nothing is left exactly if the goal is a sum -/
theorem lft_zero {ps : List (Int × Int)} {fs : List (List Int)} (ok : FormOk ps fs) (g : Int × Int) : (at_ 0 (lft fs.reverse [g.1, g.2]) = 0 ∧ at_ 1 (lft fs.reverse [g.1, g.2]) = 0) ↔ Gen ps g.1 g.2 := by
  rw [ok.same.iff]
  have len := ok.len
  have sh := ok.shape
  have n2 : ∀ r ∈ fs, 2 ≤ r.length := fun r hr => by rw [len r hr]; omega
  cases sh with
  | zero => rw [List.map_nil, gen_nil]; rfl
  | @low l h0 h1 =>
    have e : List.map xy [l] = [(at_ 0 l, 0)] := by rw [List.map_cons, List.map_nil]; show [(at_ 0 l, at_ 1 l)] = _; rw [h1]
    rw [e, in_low]
    have n := n2 l (by simp)
    have hp : plc l = 0 := by unfold plc; rw [h1]; rfl
    show (at_ 0 (nrest [g.1, g.2] l) = 0 ∧ at_ 1 (nrest [g.1, g.2] l) = 0) ↔ _
    rw [at_nrest rfl n (by omega), at_nrest rfl n (by omega), h1]
    unfold tms
    rw [hp]
    show (g.1 - at_ 0 l * g.1.fdiv (at_ 0 l) = 0 ∧ g.2 - 0 * g.1.fdiv (at_ 0 l) = 0) ↔ _
    rw [fdm, Int.zero_mul]
    constructor
    · intro ⟨a, b⟩; exact ⟨by omega, a⟩
    · intro ⟨a, b⟩; exact ⟨b, by omega⟩
  | @high h h1 =>
    rw [List.map_cons, List.map_nil, show xy h = (at_ 0 h, at_ 1 h) from rfl, in_high h1]
    have n := n2 h (by simp)
    have hp : plc h = 1 := by unfold plc; rw [if_pos (by omega)]
    show (at_ 0 (nrest [g.1, g.2] h) = 0 ∧ at_ 1 (nrest [g.1, g.2] h) = 0) ↔ _
    rw [at_nrest rfl n (by omega), at_nrest rfl n (by omega)]
    unfold tms
    rw [hp]
    show (g.1 - at_ 0 h * g.2.fdiv (at_ 1 h) = 0 ∧ g.2 - at_ 1 h * g.2.fdiv (at_ 1 h) = 0) ↔ _
    rw [fdm, Int.mul_comm]
    constructor
    · intro ⟨a, b⟩; exact ⟨b, by omega⟩
    · intro ⟨a, b⟩; exact ⟨by omega, a⟩
  | @both l h h0 h1 h2 h3 h4 =>
    have e : List.map xy [l, h] = [(at_ 0 l, 0), (at_ 0 h, at_ 1 h)] := by rw [List.map_cons, List.map_cons, List.map_nil]; show [(at_ 0 l, at_ 1 l), _] = _; rw [h1]
    rw [e, in_both h2]
    have n := n2 l (by simp)
    have m := n2 h (by simp)
    have hp : plc l = 0 := by unfold plc; rw [h1]; rfl
    have hq : plc h = 1 := by unfold plc; rw [if_pos (by omega)]
    have l2 : (nrest [g.1, g.2] h).length = 2 := by unfold nrest; rw [vless_len (by rw [List.length_take]; simp; omega)]; rfl
    show (at_ 0 (nrest (nrest [g.1, g.2] h) l) = 0 ∧ at_ 1 (nrest (nrest [g.1, g.2] h) l) = 0) ↔ _
    rw [at_nrest l2 n (by omega), at_nrest l2 n (by omega), h1]
    unfold tms
    rw [hp, at_nrest rfl m (by omega), at_nrest rfl m (by omega)]
    unfold tms
    rw [hq]
    show ((g.1 - at_ 0 h * g.2.fdiv (at_ 1 h)) - at_ 0 l * (g.1 - at_ 0 h * g.2.fdiv (at_ 1 h)).fdiv (at_ 0 l) = 0 ∧ (g.2 - at_ 1 h * g.2.fdiv (at_ 1 h)) - 0 * (g.1 - at_ 0 h * g.2.fdiv (at_ 1 h)).fdiv (at_ 0 l) = 0) ↔ _
    rw [fdm, fdm, Int.zero_mul, Int.mul_comm (at_ 0 h)]
    constructor
    · intro ⟨a, b⟩; exact ⟨by omega, a⟩
    · intro ⟨a, b⟩; exact ⟨b, by omega⟩
end K77
end KL
set_option exponentiation.threshold 100000
/-! k77: numbers_for, read. -/
namespace KL
namespace K77
open PySem L2
theorem cut_hi2 (r : List Int) : slAD (row r) none (some 2) = some (row (r.take 2)) := by
  show some (D.lst (cutL (r.map D.int) none (some 2))) = _
  unfold cutL HT.sIx
  simp
theorem cut_lo2 (r : List Int) : slAD (row r) (some 2) none = some (row (r.drop 2)) := by
  show some (D.lst (cutL (r.map D.int) (some ((2 : Nat) : Int)) none)) = _
  unfold cutL
  rw [HT.sIx_nat, HT.sIx_none, List.length_map, row, List.map_drop]
  by_cases h : 2 ≤ r.length
  · rw [Nat.min_eq_left h, List.take_of_length_le (by simp)]
  · rw [Nat.min_eq_right (by omega), List.drop_of_length_le (by simp), List.drop_of_length_le (by simp; omega)]; simp
def addT (t : Int) : D → D := fun d => match d with | .tup [.int a, .int b] => .int (a + b * t) | d => d
theorem zip_plus (t : Int) : ∀ (cs ds : List Int), (cs.zip ds).map (fun q => D.int (q.1 + q.2 * t)) = (plus cs ds t).map D.int
  | [], _ => rfl
  | _ :: _, [] => rfl
  | c :: cs, d :: ds => by
    have := zip_plus t cs ds
    show D.int (c + d * t) :: (cs.zip ds).map _ = D.int (c + d * t) :: (plus cs ds t).map D.int
    rw [this]
theorem zipD_int (cs ds : List Int) : zipD (row cs) (row ds) = some ((cs.zip ds).map fun q => .tup [.int q.1, .int q.2]) := by
  show some (zipL (cs.map D.int) (ds.map D.int)) = _
  unfold zipL
  rw [List.zip_map, List.map_map]; rfl
theorem ifte_tup {b : Bool} {Δ : DEnv} : (if b = true then Res.ok (D.int 1) Δ else Res.ok (D.int 0) Δ) = .ok (.int (if b = true then 1 else 0)) Δ := by cases b <;> rfl
theorem nf_turn {ps : List (Int × Int)} {g : Int × Int} {rest nums r : List Int} {A : Nat} {c0 c1 c4 c5 c6 : Cell} (k5 : canC c5 = true) (k6 : canC c6 = true) (hr : r.length = 2 + ps.length) (hn : Num ps g rest nums) (hps : ps.length < 100) (hnz : at_ (plc r) r ≠ 0) (h80 : (at_ (plc r) r).natAbs < 2 ^ 7900) (hA : A < 80000) (h1 : Sz A rest) (h2 : Sz 10701 r) :
    ∃ d5 d6, canC d5 = true ∧ canC d6 = true ∧ numbers_for_b1 [c0, c1, .ow (nums.map D.int), .ow (rest.map D.int), .va (row r), c5, c6, .no, .no] = .nx [c0, c1, .ow ((nnums nums rest r).map D.int), .ow ((nrest rest r).map D.int), .va (row r), d5, d6, .no, .no] := by
  refine ⟨.va (.int (plc r)), .va (.int (tms rest r)), rfl, rfl, ?_⟩
  have i1 : ixD (row r) (.int 1) = some (.int (at_ 1 r)) := ix_row (r := r) (p := 1) (by omega)
  have ep : (if (at_ 1 r != 0) = true then (1 : Int) else 0) = ((plc r : Nat) : Int) := by
    unfold plc
    by_cases h : at_ 1 r = 0
    · rw [h]; rfl
    · rw [if_pos (by simpa using h), if_pos h]; rfl
  have hpl : plc r < 2 := by unfold plc; split <;> omega
  have i2 := ix_row (r := r) (p := plc r) (by omega)
  have i3 := ix_row (r := rest) (p := plc r) (by rw [hn.r2]; omega)
  have hd : divG (.int (at_ (plc r) rest)) (.int (at_ (plc r) r)) = some (.int (tms rest r)) := divG_int hnz (Nat.lt_of_lt_of_le h80 (Nat.pow_le_pow_right (by omega) (by omega)))
  have ht : (tms rest r).natAbs < 2 ^ (A + 1) := by
    have a1 := fdiv_abs (a := at_ (plc r) rest) (b := at_ (plc r) r)
    have a2 := h1.at' (p := plc r)
    unfold tms
    rw [Nat.pow_succ]; omega
  have hsc := scaled_ok (n := 10701) (k := A + 1) (r := r.take 2) (q := tms rest r) (by rw [List.length_take]; omega) (fun a ha => h2 a (List.mem_of_mem_take ha)) ht (by omega)
  have hls := less_ok (r := rest) (s := (r.take 2).map (· * tms rest r)) (by rw [hn.r2]; omega) (by rw [List.length_map, List.length_take, hn.r2]; omega)
  unfold numbers_for_b1
  simp only [sq_, seq_nx, seq_rt, seq_rf, seq_bk, seq_ct, seq_ex, loop_nx, loop_rt, loop_rf, loop_bk, loop_ct, loop_ex, s_ok_, s_ex_, bind_ok_, bind_ex_, map_ok_, map_ex_, opt_some_, nox_ok_, gd_true_, exprS_, retS_, retFS_, setS_, setOS_, ifS_, forS_, opM_, varR_, asB_, truM_, notM_, andM_, orM_, call1_, lstE_, consM_, aV_, someM_, slM_, raiseM_, andV_, orV_, ifM_, rd_va, rd_ow, rd_pa, addD_int, subD_int, ltG_int, leG_int, gtG_int, geG_int, intD1_int, intD1_bl, absD_int, lenD_lst, lenD_lsx, lenD_tup, canC_no, canC_va, canC_ow, eqD_int, neD_int, eqD_str, neD_str, e_opV, e_varM, e_rdR, e_get0, e_getS, e_set0, e_setS, e_bind, e_cst, e_setM, e_setO, canSet_, e_tgN, e_tgT, e_tgsNil, e_tgsCons, e_asgM, e_parM, e_tupM, e_lstM, e_notV, e_negM, e_seqA, e_chainM, e_callF1, e_sm1M, e_enumM, e_getL, e_list_ow, e_list_pa, e_own_ow, e_own_pa, e_getO, e_setW, e_appendM, e_aO, e_callG, e_cells0, e_cellsV, e_cellsO, e_omap, e_slots0, e_slotsV, e_slotsO, e_nodup0, e_nodup1, e_toR_ok, e_toR_ex, e_toF_fr, e_toF_ex, e_backO, e_backV, e_back0, e_tru_int, e_tru_bl, e_stepC, e_wipe0, e_wipeS, e_rest0, e_restS, e_for0, e_nox, e_plain_no, e_plain_va, e_all0, e_allS, Bool.and_self, Bool.true_and, fin_nx, fin_rt, fin_rf, fin_ex, kpD_kpc, e_kpc0, e_kpcS, keepC_pa, keepC_va, keepC_ow, keepC_no, if_true, if_false, Bool.true_eq, Bool.false_eq_true, decide_true, List.length_cons, List.length_nil, and_self, k5, k6]
  simp only [sq_, seq_nx, seq_rt, seq_rf, seq_bk, seq_ct, seq_ex, loop_nx, loop_rt, loop_rf, loop_bk, loop_ct, loop_ex, s_ok_, s_ex_, bind_ok_, bind_ex_, map_ok_, map_ex_, opt_some_, nox_ok_, gd_true_, exprS_, retS_, retFS_, setS_, setOS_, ifS_, forS_, opM_, varR_, asB_, truM_, notM_, andM_, orM_, call1_, lstE_, consM_, aV_, someM_, slM_, raiseM_, andV_, orV_, ifM_, rd_va, rd_ow, rd_pa, addD_int, subD_int, ltG_int, leG_int, gtG_int, geG_int, intD1_int, intD1_bl, absD_int, lenD_lst, lenD_lsx, lenD_tup, canC_no, canC_va, canC_ow, eqD_int, neD_int, eqD_str, neD_str, e_opV, e_varM, e_rdR, e_get0, e_getS, e_set0, e_setS, e_bind, e_cst, e_setM, e_setO, canSet_, e_tgN, e_tgT, e_tgsNil, e_tgsCons, e_asgM, e_parM, e_tupM, e_lstM, e_notV, e_negM, e_seqA, e_chainM, e_callF1, e_sm1M, e_enumM, e_getL, e_list_ow, e_list_pa, e_own_ow, e_own_pa, e_getO, e_setW, e_appendM, e_aO, e_callG, e_cells0, e_cellsV, e_cellsO, e_omap, e_slots0, e_slotsV, e_slotsO, e_nodup0, e_nodup1, e_toR_ok, e_toR_ex, e_toF_fr, e_toF_ex, e_backO, e_backV, e_back0, e_tru_int, e_tru_bl, e_stepC, e_wipe0, e_wipeS, e_rest0, e_restS, e_for0, e_nox, e_plain_no, e_plain_va, e_all0, e_allS, Bool.and_self, Bool.true_and, fin_nx, fin_rt, fin_rf, fin_ex, kpD_kpc, e_kpc0, e_kpcS, keepC_pa, keepC_va, keepC_ow, keepC_no, if_true, if_false, Bool.true_eq, Bool.false_eq_true, decide_true, List.length_cons, List.length_nil, and_self, i1, i2, i3, hd, ifte_tup, k5, k6, ep, cut_hi2, hsc, hls]
  rw [lcM_m (fun q : Int × Int => .tup [.int q.1, .int q.2]) (fun q => .int (q.1 + q.2 * tms rest r)) (xs := nums.zip (r.drop 2)) (hi := by simp only [sq_, seq_nx, seq_rt, seq_rf, seq_bk, seq_ct, seq_ex, loop_nx, loop_rt, loop_rf, loop_bk, loop_ct, loop_ex, s_ok_, s_ex_, bind_ok_, bind_ex_, map_ok_, map_ex_, opt_some_, nox_ok_, gd_true_, exprS_, retS_, retFS_, setS_, setOS_, ifS_, forS_, opM_, varR_, asB_, truM_, notM_, andM_, orM_, call1_, lstE_, consM_, aV_, someM_, slM_, raiseM_, andV_, orV_, ifM_, rd_va, rd_ow, rd_pa, addD_int, subD_int, ltG_int, leG_int, gtG_int, geG_int, intD1_int, intD1_bl, absD_int, lenD_lst, lenD_lsx, lenD_tup, canC_no, canC_va, canC_ow, eqD_int, neD_int, eqD_str, neD_str, e_opV, e_varM, e_rdR, e_get0, e_getS, e_set0, e_setS, e_bind, e_cst, e_setM, e_setO, canSet_, e_tgN, e_tgT, e_tgsNil, e_tgsCons, e_asgM, e_parM, e_tupM, e_lstM, e_notV, e_negM, e_seqA, e_chainM, e_callF1, e_sm1M, e_enumM, e_getL, e_list_ow, e_list_pa, e_own_ow, e_own_pa, e_getO, e_setW, e_appendM, e_aO, e_callG, e_cells0, e_cellsV, e_cellsO, e_omap, e_slots0, e_slotsV, e_slotsO, e_nodup0, e_nodup1, e_toR_ok, e_toR_ex, e_toF_fr, e_toF_ex, e_backO, e_backV, e_back0, e_tru_int, e_tru_bl, e_stepC, e_wipe0, e_wipeS, e_rest0, e_restS, e_for0, e_nox, e_plain_no, e_plain_va, e_all0, e_allS, Bool.and_self, Bool.true_and, fin_nx, fin_rt, fin_rf, fin_ex, kpD_kpc, e_kpc0, e_kpcS, keepC_pa, keepC_va, keepC_ow, keepC_no, if_true, if_false, Bool.true_eq, Bool.false_eq_true, decide_true, List.length_cons, List.length_nil, and_self, cut_lo2, zipD_int]; rfl) (hl := by rw [List.length_zip, hn.nl]; omega) (hp := rfl) (h := fun q hq => ?_)]
  · simp only [sq_, seq_nx, seq_rt, seq_rf, seq_bk, seq_ct, seq_ex, loop_nx, loop_rt, loop_rf, loop_bk, loop_ct, loop_ex, s_ok_, s_ex_, bind_ok_, bind_ex_, map_ok_, map_ex_, opt_some_, nox_ok_, gd_true_, exprS_, retS_, retFS_, setS_, setOS_, ifS_, forS_, opM_, varR_, asB_, truM_, notM_, andM_, orM_, call1_, lstE_, consM_, aV_, someM_, slM_, raiseM_, andV_, orV_, ifM_, rd_va, rd_ow, rd_pa, addD_int, subD_int, ltG_int, leG_int, gtG_int, geG_int, intD1_int, intD1_bl, absD_int, lenD_lst, lenD_lsx, lenD_tup, canC_no, canC_va, canC_ow, eqD_int, neD_int, eqD_str, neD_str, e_opV, e_varM, e_rdR, e_get0, e_getS, e_set0, e_setS, e_bind, e_cst, e_setM, e_setO, canSet_, e_tgN, e_tgT, e_tgsNil, e_tgsCons, e_asgM, e_parM, e_tupM, e_lstM, e_notV, e_negM, e_seqA, e_chainM, e_callF1, e_sm1M, e_enumM, e_getL, e_list_ow, e_list_pa, e_own_ow, e_own_pa, e_getO, e_setW, e_appendM, e_aO, e_callG, e_cells0, e_cellsV, e_cellsO, e_omap, e_slots0, e_slotsV, e_slotsO, e_nodup0, e_nodup1, e_toR_ok, e_toR_ex, e_toF_fr, e_toF_ex, e_backO, e_backV, e_back0, e_tru_int, e_tru_bl, e_stepC, e_wipe0, e_wipeS, e_rest0, e_restS, e_for0, e_nox, e_plain_no, e_plain_va, e_all0, e_allS, Bool.and_self, Bool.true_and, fin_nx, fin_rt, fin_rf, fin_ex, kpD_kpc, e_kpc0, e_kpcS, keepC_pa, keepC_va, keepC_ow, keepC_no, if_true, if_false, Bool.true_eq, Bool.false_eq_true, decide_true, List.length_cons, List.length_nil, and_self, zip_plus]; rfl
  · obtain ⟨q1, q2⟩ := List.of_mem_zip (a := q.1) (b := q.2) hq
    have hm : mulG (.int q.2) (.int (tms rest r)) = some (.int (q.2 * tms rest r)) := mulG_int (h2 _ (List.mem_of_mem_drop q2)) ht (by omega)
    simp only [sq_, seq_nx, seq_rt, seq_rf, seq_bk, seq_ct, seq_ex, loop_nx, loop_rt, loop_rf, loop_bk, loop_ct, loop_ex, s_ok_, s_ex_, bind_ok_, bind_ex_, map_ok_, map_ex_, opt_some_, nox_ok_, gd_true_, exprS_, retS_, retFS_, setS_, setOS_, ifS_, forS_, opM_, varR_, asB_, truM_, notM_, andM_, orM_, call1_, lstE_, consM_, aV_, someM_, slM_, raiseM_, andV_, orV_, ifM_, rd_va, rd_ow, rd_pa, addD_int, subD_int, ltG_int, leG_int, gtG_int, geG_int, intD1_int, intD1_bl, absD_int, lenD_lst, lenD_lsx, lenD_tup, canC_no, canC_va, canC_ow, eqD_int, neD_int, eqD_str, neD_str, e_opV, e_varM, e_rdR, e_get0, e_getS, e_set0, e_setS, e_bind, e_cst, e_setM, e_setO, canSet_, e_tgN, e_tgT, e_tgsNil, e_tgsCons, e_asgM, e_parM, e_tupM, e_lstM, e_notV, e_negM, e_seqA, e_chainM, e_callF1, e_sm1M, e_enumM, e_getL, e_list_ow, e_list_pa, e_own_ow, e_own_pa, e_getO, e_setW, e_appendM, e_aO, e_callG, e_cells0, e_cellsV, e_cellsO, e_omap, e_slots0, e_slotsV, e_slotsO, e_nodup0, e_nodup1, e_toR_ok, e_toR_ex, e_toF_fr, e_toF_ex, e_backO, e_backV, e_back0, e_tru_int, e_tru_bl, e_stepC, e_wipe0, e_wipeS, e_rest0, e_restS, e_for0, e_nox, e_plain_no, e_plain_va, e_all0, e_allS, Bool.and_self, Bool.true_and, fin_nx, fin_rt, fin_rf, fin_ex, kpD_kpc, e_kpc0, e_kpcS, keepC_pa, keepC_va, keepC_ow, keepC_no, if_true, if_false, Bool.true_eq, Bool.false_eq_true, decide_true, List.length_cons, List.length_nil, and_self, hm]

end K77
end KL
set_option exponentiation.threshold 100000
/-! k77: numbers_for, the whole of it. -/
namespace KL
namespace K77
open PySem L2
theorem nrest_size {ps : List (Int × Int)} {g : Int × Int} {rest nums r : List Int} {A : Nat} (hn : Num ps g rest nums) (hr : 2 ≤ r.length) (h1 : Sz A rest) (h2 : Sz 10701 r) : Sz (A + 10703) (nrest rest r) := by
  intro a ha
  have ht : (tms rest r).natAbs ≤ 2 ^ A := by
    have a1 := fdiv_abs (a := at_ (plc r) rest) (b := at_ (plc r) r)
    have a2 := h1.at' (p := plc r)
    unfold tms
    omega
  have s1 : ∀ b ∈ rest, b.natAbs ≤ 2 ^ A * 2 ^ 10701 := fun b hb => Nat.le_trans (Nat.le_of_lt (h1 b hb)) (Nat.le_mul_of_pos_right _ (Nat.pow_pos (by omega)))
  have s2 : ∀ b ∈ r.take 2, b.natAbs ≤ 2 ^ 10701 := fun b hb => Nat.le_of_lt (h2 b (List.mem_of_mem_take hb))
  unfold nrest vless at ha
  obtain ⟨j, hj, e⟩ := List.mem_iff_getElem.mp ha
  rw [List.getElem_zipWith, List.getElem_map] at e
  rw [List.length_zipWith, List.length_map] at hj
  have b1 := s1 _ (List.getElem_mem (show j < rest.length by omega))
  have b2 := s2 _ (List.getElem_mem (show j < (r.take 2).length by omega))
  generalize rest[j]'(by omega) = u at e b1
  generalize (r.take 2)[j]'(by omega) = v at e b2
  have h3 : (v * tms rest r).natAbs ≤ 2 ^ 10701 * 2 ^ A := by rw [Int.natAbs_mul]; exact Nat.mul_le_mul b2 ht
  have h4 : 2 ^ (A + 10703) = 2 ^ A * 2 ^ 10701 * 4 := by rw [Nat.mul_assoc, show (2 : Nat) ^ 10701 * 4 = 2 ^ 10703 by rw [show (10703 : Nat) = 10701 + 2 by rfl, Nat.pow_add], ← Nat.pow_add]
  have h5 : 0 < 2 ^ A * 2 ^ 10701 := Nat.mul_pos (Nat.pow_pos (by omega)) (Nat.pow_pos (by omega))
  rw [Nat.mul_comm (2 ^ 10701)] at h3
  omega
theorem nnums_size {ps : List (Int × Int)} {g : Int × Int} {rest nums r : List Int} {A : Nat} (h1 : Sz A rest) (h2 : Sz 10701 r) (h3 : Sz (A + 10800) nums) : Sz (A + 10703 + 10800) (nnums nums rest r) := by
  intro a ha
  have ht : (tms rest r).natAbs ≤ 2 ^ A := by
    have a1 := fdiv_abs (a := at_ (plc r) rest) (b := at_ (plc r) r)
    have a2 := h1.at' (p := plc r)
    unfold tms
    omega
  unfold nnums plus at ha
  obtain ⟨j, hj, e⟩ := List.mem_iff_getElem.mp ha
  rw [List.getElem_zipWith] at e
  rw [List.length_zipWith] at hj
  have b1 := h3 _ (List.getElem_mem (show j < nums.length by omega))
  have b2 := h2 _ (List.mem_of_mem_drop (List.getElem_mem (show j < (r.drop 2).length by omega)))
  generalize nums[j]'(by omega) = u at e b1
  generalize (r.drop 2)[j]'(by omega) = v at e b2
  have h4 : (v * tms rest r).natAbs ≤ 2 ^ 10701 * 2 ^ A := by rw [Int.natAbs_mul]; exact Nat.mul_le_mul (by omega) ht
  rw [← Nat.pow_add] at h4
  have h5 : 2 ^ (10701 + A) ≤ 2 ^ (A + 10800) := Nat.pow_le_pow_right (by omega) (by omega)
  have h6 : 2 ^ (A + 10800) * 2 ≤ 2 ^ (A + 10703 + 10800) := by rw [← Nat.pow_succ]; exact Nat.pow_le_pow_right (by omega) (by omega)
  omega
structure RowOk (ps : List (Int × Int)) (r : List Int) : Prop where
  len : r.length = 2 + ps.length
  says : Says ps r
  nz : at_ (plc r) r ≠ 0
  lt : (at_ (plc r) r).natAbs < 2 ^ 7900
  sz : Sz 10701 r
theorem rowOk {ps : List (Int × Int)} {fs : List (List Int)} (ok : FormOk ps fs) {r : List Int} (hr : r ∈ fs) : RowOk ps r := by
  refine ⟨ok.len r hr, ok.says r hr, ?_, ?_, fun a ha => Nat.lt_of_le_of_lt (ok.size r hr a ha) (Nat.pow_lt_pow_right (by omega) (by omega))⟩
  · have sh := ok.shape
    unfold plc
    split
    · rename_i h; exact h
    · rename_i h
      have h : at_ 1 r = 0 := by omega
      cases sh with
      | zero => cases hr
      | low a b => rw [List.mem_singleton.mp hr]; omega
      | high a => rw [List.mem_singleton.mp hr] at h; omega
      | both a b c d e =>
        rcases List.mem_cons.mp hr with rfl | hr
        · omega
        · rw [List.mem_singleton.mp hr] at h; omega
  · have := ok.col r hr
    have h2 : 2 ^ 5300 < 2 ^ 7900 := Nat.pow_lt_pow_right (by omega) (by omega)
    unfold plc
    split <;> omega
def nums_ : List (List Int) → List Int → List Int → List Int
  | [], _, nums => nums
  | r :: rs, rest, nums => nums_ rs (nrest rest r) (nnums nums rest r)
theorem nf_loop {ps : List (Int × Int)} {g : Int × Int} (hps : ps.length < 100) : ∀ (rs : List (List Int)) (rest nums : List Int) (A : Nat) (c0 c1 c4 c5 c6 : Cell), (∀ r ∈ rs, RowOk ps r) → Num ps g rest nums → A + 10703 * rs.length < 80000 → Sz A rest → Sz (A + 10800) nums → canC c4 = true → canC c5 = true → canC c6 = true →
    ∃ d4 d5 d6, canC d5 = true ∧ canC d6 = true ∧ Num ps g (lft rs rest) (nums_ rs rest nums) ∧ Sz (A + 10703 * rs.length + 10800) (nums_ rs rest nums) ∧ forM (tgN 4) numbers_for_b1 (rs.map row) [c0, c1, .ow (nums.map D.int), .ow (rest.map D.int), c4, c5, c6, .no, .no] = .nx [c0, c1, .ow ((nums_ rs rest nums).map D.int), .ow ((lft rs rest).map D.int), d4, d5, d6, .no, .no]
  | [], rest, nums, A, c0, c1, c4, c5, c6, hr, hn, hA, h1, hN, k4, k5, k6 => ⟨c4, c5, c6, k5, k6, hn, hN, rfl⟩
  | r :: rs, rest, nums, A, c0, c1, c4, c5, c6, hr, hn, hA, h1, hN, k4, k5, k6 => by
    have ro := hr r (by simp)
    rw [List.length_cons] at hA
    obtain ⟨d5, d6, m5, m6, e⟩ := nf_turn (c0 := c0) (c1 := c1) (c4 := c4) k5 k6 ro.len hn hps ro.nz ro.lt (A := A) (by omega) h1 ro.sz
    obtain ⟨f4, f5, f6, n5, n6, q, qs, e2⟩ := nf_loop hps rs (nrest rest r) (nnums nums rest r) (A + 10703) c0 c1 (.va (row r)) d5 d6 (fun r h => hr r (by simp [h])) (hn.step ro.len ro.says) (by omega) (nrest_size hn (by rw [ro.len]; omega) h1 ro.sz) (nnums_size (ps := ps) (g := g) h1 ro.sz hN) rfl m5 m6
    refine ⟨f4, f5, f6, n5, n6, q, by rw [List.length_cons, show A + 10703 * (rs.length + 1) + 10800 = A + 10703 + 10703 * rs.length + 10800 by omega]; exact qs, ?_⟩
    rw [List.map_cons, e_forS]
    simp only [sq_, seq_nx, seq_rt, seq_rf, seq_bk, seq_ct, seq_ex, loop_nx, loop_rt, loop_rf, loop_bk, loop_ct, loop_ex, s_ok_, s_ex_, bind_ok_, bind_ex_, map_ok_, map_ex_, opt_some_, nox_ok_, gd_true_, exprS_, retS_, retFS_, setS_, setOS_, ifS_, forS_, opM_, varR_, asB_, truM_, notM_, andM_, orM_, call1_, lstE_, consM_, aV_, someM_, slM_, raiseM_, andV_, orV_, ifM_, rd_va, rd_ow, rd_pa, addD_int, subD_int, ltG_int, leG_int, gtG_int, geG_int, intD1_int, intD1_bl, absD_int, lenD_lst, lenD_lsx, lenD_tup, canC_no, canC_va, canC_ow, eqD_int, neD_int, eqD_str, neD_str, e_opV, e_varM, e_rdR, e_get0, e_getS, e_set0, e_setS, e_bind, e_cst, e_setM, e_setO, canSet_, e_tgN, e_tgT, e_tgsNil, e_tgsCons, e_asgM, e_parM, e_tupM, e_lstM, e_notV, e_negM, e_seqA, e_chainM, e_callF1, e_sm1M, e_enumM, e_getL, e_list_ow, e_list_pa, e_own_ow, e_own_pa, e_getO, e_setW, e_appendM, e_aO, e_callG, e_cells0, e_cellsV, e_cellsO, e_omap, e_slots0, e_slotsV, e_slotsO, e_nodup0, e_nodup1, e_toR_ok, e_toR_ex, e_toF_fr, e_toF_ex, e_backO, e_backV, e_back0, e_tru_int, e_tru_bl, e_stepC, e_range1M, e_augPutM, e_aug1, e_aug2, e_putL, e_revF, listF, tupD, e_wipe0, e_wipeS, e_rest0, e_restS, e_for0, e_nox, e_plain_no, e_plain_va, e_all0, e_allS, Bool.and_self, Bool.true_and, fin_nx, fin_rt, fin_rf, fin_ex, kpD_kpc, e_kpc0, e_kpcS, keepC_pa, keepC_va, keepC_ow, keepC_no, if_true, if_false, Bool.true_eq, Bool.false_eq_true, decide_true, List.length_cons, List.length_nil, and_self, Nat.reduceAdd, Nat.reduceSub, Nat.reduceLeDiff, Nat.reduceEqDiff, Int.reduceNeg, k4, e, e2]
    rfl
theorem nums_fn {ps : List (Int × Int)} {k : Nat} (hl : ps.length ≤ 10) (hk : k ≤ 140) (hs : ∀ q ∈ ps, q.1.natAbs ≤ 2 ^ k ∧ q.2.natAbs ≤ 2 ^ k) (g : Int × Int) (hg : g.1.natAbs < 2 ^ 200 ∧ g.2.natAbs < 2 ^ 200) :
    (Gen ps g.1 g.2 → ∃ nums : List Int, nums.length = ps.length ∧ g.1 = dot (ps.map Prod.fst) nums ∧ g.2 = dot (ps.map Prod.snd) nums ∧ Sz 40000 nums ∧ F_numbers_for [.va (.lst (pairsD ps)), .va (pr g)] = .ok (.tup (nums.map D.int)) [.no, .no]) ∧
    (¬ Gen ps g.1 g.2 → F_numbers_for [.va (.lst (pairsD ps)), .va (pr g)] = .ok .non [.no, .no]) := by
  obtain ⟨fs, ok, e, _⟩ := sums_fn hl hk hs
  have hf2 : fs.length ≤ 2 := by
    have := ok.shape
    cases this <;> simp
  have k1 := check_lst ps
  have k2 : F_check_pairs [.va (.lst [pr g])] = .ok .non [.no] := check_lst [g]
  have hrep : repF (.lst [.int 0]) (.int (ps.length : Nat)) = some ((List.replicate ps.length (0 : Int)).map D.int) := by
    rw [repF_ok (by omega) (by simp; omega), List.map_replicate]
    congr 1
    generalize ps.length = n
    induction n with
    | zero => rfl
    | succ n ih => rw [List.replicate_succ, List.replicate_succ, List.flatten_cons, ih]; rfl
  obtain ⟨d4, d5, d6, m5, m6, q, qz, lp⟩ := nf_loop (ps := ps) (g := g) (by omega) fs.reverse [g.1, g.2] (List.replicate ps.length 0) 200 (.va (.lst (pairsD ps))) (.va (pr g)) .no .no .no (fun r hr => rowOk ok (List.mem_reverse.mp hr)) (Num.start ps g) (by rw [List.length_reverse]; omega)
    (fun a ha => by
      have : a = g.1 ∨ a = g.2 := by simpa using ha
      rcases this with rfl | rfl
      · exact hg.1
      · exact hg.2) (fun a ha => by rw [List.eq_of_mem_replicate ha]; exact Nat.pow_pos (by omega)) rfl rfl rfl
  have hi := lft_zero ok g
  have j0 := ix_row (r := lft fs.reverse [g.1, g.2]) (p := 0) (by rw [q.r2]; omega)
  have j1 : ixD (row (lft fs.reverse [g.1, g.2])) (.int 1) = some (.int (at_ 1 (lft fs.reverse [g.1, g.2]))) := ix_row (p := 1) (by rw [q.r2]; omega)
  have j0 : ixD (row (lft fs.reverse [g.1, g.2])) (.int 0) = some (.int (at_ 0 (lft fs.reverse [g.1, g.2]))) := j0
  simp only [List.map_cons, List.map_nil] at lp
  have main : F_numbers_for [.va (.lst (pairsD ps)), .va (pr g)] = .ok (if (at_ 0 (lft fs.reverse [g.1, g.2]) = 0 ∧ at_ 1 (lft fs.reverse [g.1, g.2]) = 0) then .tup ((nums_ fs.reverse [g.1, g.2] (List.replicate ps.length 0)).map D.int) else .non) [.no, .no] := by
    unfold F_numbers_for
    rw [bodyF_]
    show (m_numbers_for [.va (.lst (pairsD ps)), .va (pr g), .no, .no, .no, .no, .no, .no, .no]).fin 2 = _
    unfold m_numbers_for
    simp only [sq_, seq_nx, seq_rt, seq_rf, seq_bk, seq_ct, seq_ex, loop_nx, loop_rt, loop_rf, loop_bk, loop_ct, loop_ex, s_ok_, s_ex_, bind_ok_, bind_ex_, map_ok_, map_ex_, opt_some_, nox_ok_, gd_true_, exprS_, retS_, retFS_, setS_, setOS_, ifS_, forS_, opM_, varR_, asB_, truM_, notM_, andM_, orM_, call1_, lstE_, consM_, aV_, someM_, slM_, raiseM_, andV_, orV_, ifM_, rd_va, rd_ow, rd_pa, addD_int, subD_int, ltG_int, leG_int, gtG_int, geG_int, intD1_int, intD1_bl, absD_int, lenD_lst, lenD_lsx, lenD_tup, canC_no, canC_va, canC_ow, eqD_int, neD_int, eqD_str, neD_str, e_opV, e_varM, e_rdR, e_get0, e_getS, e_set0, e_setS, e_bind, e_cst, e_setM, e_setO, canSet_, e_tgN, e_tgT, e_tgsNil, e_tgsCons, e_asgM, e_parM, e_tupM, e_lstM, e_notV, e_negM, e_seqA, e_chainM, e_callF1, e_sm1M, e_enumM, e_getL, e_list_ow, e_list_pa, e_own_ow, e_own_pa, e_getO, e_setW, e_appendM, e_aO, e_callG, e_cells0, e_cellsV, e_cellsO, e_omap, e_slots0, e_slotsV, e_slotsO, e_nodup0, e_nodup1, e_toR_ok, e_toR_ex, e_toF_fr, e_toF_ex, e_backO, e_backV, e_back0, e_tru_int, e_tru_bl, e_stepC, e_range1M, e_augPutM, e_aug1, e_aug2, e_putL, e_revF, listF, tupD, e_wipe0, e_wipeS, e_rest0, e_restS, e_for0, e_nox, e_plain_no, e_plain_va, e_all0, e_allS, Bool.and_self, Bool.true_and, fin_nx, fin_rt, fin_rf, fin_ex, kpD_kpc, e_kpc0, e_kpcS, keepC_pa, keepC_va, keepC_ow, keepC_no, if_true, if_false, Bool.true_eq, Bool.false_eq_true, decide_true, List.length_cons, List.length_nil, and_self, Nat.reduceAdd, Nat.reduceSub, Nat.reduceLeDiff, Nat.reduceEqDiff, Int.reduceNeg, k1, k2, List.length_map, hrep, e, ← List.map_reverse, lp, j0, j1]
    by_cases h0 : at_ 0 (lft fs.reverse [g.1, g.2]) = 0
    · by_cases h1 : at_ 1 (lft fs.reverse [g.1, g.2]) = 0
      · simp only [sq_, seq_nx, seq_rt, seq_rf, seq_bk, seq_ct, seq_ex, loop_nx, loop_rt, loop_rf, loop_bk, loop_ct, loop_ex, s_ok_, s_ex_, bind_ok_, bind_ex_, map_ok_, map_ex_, opt_some_, nox_ok_, gd_true_, exprS_, retS_, retFS_, setS_, setOS_, ifS_, forS_, opM_, varR_, asB_, truM_, notM_, andM_, orM_, call1_, lstE_, consM_, aV_, someM_, slM_, raiseM_, andV_, orV_, ifM_, rd_va, rd_ow, rd_pa, addD_int, subD_int, ltG_int, leG_int, gtG_int, geG_int, intD1_int, intD1_bl, absD_int, lenD_lst, lenD_lsx, lenD_tup, canC_no, canC_va, canC_ow, eqD_int, neD_int, eqD_str, neD_str, e_opV, e_varM, e_rdR, e_get0, e_getS, e_set0, e_setS, e_bind, e_cst, e_setM, e_setO, canSet_, e_tgN, e_tgT, e_tgsNil, e_tgsCons, e_asgM, e_parM, e_tupM, e_lstM, e_notV, e_negM, e_seqA, e_chainM, e_callF1, e_sm1M, e_enumM, e_getL, e_list_ow, e_list_pa, e_own_ow, e_own_pa, e_getO, e_setW, e_appendM, e_aO, e_callG, e_cells0, e_cellsV, e_cellsO, e_omap, e_slots0, e_slotsV, e_slotsO, e_nodup0, e_nodup1, e_toR_ok, e_toR_ex, e_toF_fr, e_toF_ex, e_backO, e_backV, e_back0, e_tru_int, e_tru_bl, e_stepC, e_range1M, e_augPutM, e_aug1, e_aug2, e_putL, e_revF, listF, tupD, e_wipe0, e_wipeS, e_rest0, e_restS, e_for0, e_nox, e_plain_no, e_plain_va, e_all0, e_allS, Bool.and_self, Bool.true_and, fin_nx, fin_rt, fin_rf, fin_ex, kpD_kpc, e_kpc0, e_kpcS, keepC_pa, keepC_va, keepC_ow, keepC_no, if_true, if_false, Bool.true_eq, Bool.false_eq_true, decide_true, List.length_cons, List.length_nil, and_self, Nat.reduceAdd, Nat.reduceSub, Nat.reduceLeDiff, Nat.reduceEqDiff, Int.reduceNeg, h0, h1, bne_self_eq_false]
      · have e1 : (at_ 1 (lft fs.reverse [g.1, g.2]) != 0) = true := by simpa using h1
        simp only [sq_, seq_nx, seq_rt, seq_rf, seq_bk, seq_ct, seq_ex, loop_nx, loop_rt, loop_rf, loop_bk, loop_ct, loop_ex, s_ok_, s_ex_, bind_ok_, bind_ex_, map_ok_, map_ex_, opt_some_, nox_ok_, gd_true_, exprS_, retS_, retFS_, setS_, setOS_, ifS_, forS_, opM_, varR_, asB_, truM_, notM_, andM_, orM_, call1_, lstE_, consM_, aV_, someM_, slM_, raiseM_, andV_, orV_, ifM_, rd_va, rd_ow, rd_pa, addD_int, subD_int, ltG_int, leG_int, gtG_int, geG_int, intD1_int, intD1_bl, absD_int, lenD_lst, lenD_lsx, lenD_tup, canC_no, canC_va, canC_ow, eqD_int, neD_int, eqD_str, neD_str, e_opV, e_varM, e_rdR, e_get0, e_getS, e_set0, e_setS, e_bind, e_cst, e_setM, e_setO, canSet_, e_tgN, e_tgT, e_tgsNil, e_tgsCons, e_asgM, e_parM, e_tupM, e_lstM, e_notV, e_negM, e_seqA, e_chainM, e_callF1, e_sm1M, e_enumM, e_getL, e_list_ow, e_list_pa, e_own_ow, e_own_pa, e_getO, e_setW, e_appendM, e_aO, e_callG, e_cells0, e_cellsV, e_cellsO, e_omap, e_slots0, e_slotsV, e_slotsO, e_nodup0, e_nodup1, e_toR_ok, e_toR_ex, e_toF_fr, e_toF_ex, e_backO, e_backV, e_back0, e_tru_int, e_tru_bl, e_stepC, e_range1M, e_augPutM, e_aug1, e_aug2, e_putL, e_revF, listF, tupD, e_wipe0, e_wipeS, e_rest0, e_restS, e_for0, e_nox, e_plain_no, e_plain_va, e_all0, e_allS, Bool.and_self, Bool.true_and, fin_nx, fin_rt, fin_rf, fin_ex, kpD_kpc, e_kpc0, e_kpcS, keepC_pa, keepC_va, keepC_ow, keepC_no, if_true, if_false, Bool.true_eq, Bool.false_eq_true, decide_true, List.length_cons, List.length_nil, and_self, Nat.reduceAdd, Nat.reduceSub, Nat.reduceLeDiff, Nat.reduceEqDiff, Int.reduceNeg, h0, e1, h1, and_false, bne_self_eq_false]
    · have e0 : (at_ 0 (lft fs.reverse [g.1, g.2]) != 0) = true := by simpa using h0
      simp only [sq_, seq_nx, seq_rt, seq_rf, seq_bk, seq_ct, seq_ex, loop_nx, loop_rt, loop_rf, loop_bk, loop_ct, loop_ex, s_ok_, s_ex_, bind_ok_, bind_ex_, map_ok_, map_ex_, opt_some_, nox_ok_, gd_true_, exprS_, retS_, retFS_, setS_, setOS_, ifS_, forS_, opM_, varR_, asB_, truM_, notM_, andM_, orM_, call1_, lstE_, consM_, aV_, someM_, slM_, raiseM_, andV_, orV_, ifM_, rd_va, rd_ow, rd_pa, addD_int, subD_int, ltG_int, leG_int, gtG_int, geG_int, intD1_int, intD1_bl, absD_int, lenD_lst, lenD_lsx, lenD_tup, canC_no, canC_va, canC_ow, eqD_int, neD_int, eqD_str, neD_str, e_opV, e_varM, e_rdR, e_get0, e_getS, e_set0, e_setS, e_bind, e_cst, e_setM, e_setO, canSet_, e_tgN, e_tgT, e_tgsNil, e_tgsCons, e_asgM, e_parM, e_tupM, e_lstM, e_notV, e_negM, e_seqA, e_chainM, e_callF1, e_sm1M, e_enumM, e_getL, e_list_ow, e_list_pa, e_own_ow, e_own_pa, e_getO, e_setW, e_appendM, e_aO, e_callG, e_cells0, e_cellsV, e_cellsO, e_omap, e_slots0, e_slotsV, e_slotsO, e_nodup0, e_nodup1, e_toR_ok, e_toR_ex, e_toF_fr, e_toF_ex, e_backO, e_backV, e_back0, e_tru_int, e_tru_bl, e_stepC, e_range1M, e_augPutM, e_aug1, e_aug2, e_putL, e_revF, listF, tupD, e_wipe0, e_wipeS, e_rest0, e_restS, e_for0, e_nox, e_plain_no, e_plain_va, e_all0, e_allS, Bool.and_self, Bool.true_and, fin_nx, fin_rt, fin_rf, fin_ex, kpD_kpc, e_kpc0, e_kpcS, keepC_pa, keepC_va, keepC_ow, keepC_no, if_true, if_false, Bool.true_eq, Bool.false_eq_true, decide_true, List.length_cons, List.length_nil, and_self, Nat.reduceAdd, Nat.reduceSub, Nat.reduceLeDiff, Nat.reduceEqDiff, Int.reduceNeg, e0, h0, false_and]
  refine ⟨fun h => ?_, fun h => ?_⟩
  · have z := hi.mpr h
    rw [if_pos z] at main
    have h1 := q.x
    have h2 := q.y
    rw [z.1] at h1
    rw [z.2] at h2
    exact ⟨_, q.nl, by omega, by omega, qz.mono (by rw [List.length_reverse]; omega), main⟩
  · rw [if_neg fun z => h (hi.mp z)] at main
    exact main
end K77
end KL
set_option exponentiation.threshold 100000
/-! k77: common_of. -/
namespace KL
namespace K77
open PySem L2
/-- d is the common divisor of a and b, up to its sign -/
structure Com (d a b : Int) : Prop where
  lin : ∃ u v, d = u * a + v * b
  da : ∃ k, a = k * d
  db : ∃ k, b = k * d
theorem Com.zero (a : Int) : Com a a 0 := ⟨⟨1, 0, by omega⟩, ⟨1, by omega⟩, ⟨0, by omega⟩⟩
theorem Com.back {d a b : Int} (h : Com d b (a.fmod b)) : Com d a b := by
  obtain ⟨⟨u, v, h1⟩, ⟨k, h2⟩, ⟨m, h3⟩⟩ := h
  have e := Int.mul_fdiv_add_fmod a b
  refine ⟨⟨v, u - v * a.fdiv b, ?_⟩, ⟨m + k * a.fdiv b, ?_⟩, ⟨k, h2⟩⟩
  · have h4 : a.fmod b = a - b * a.fdiv b := by omega
    rw [h1, h4, Int.mul_sub, Int.sub_mul, Int.mul_assoc v, Int.mul_comm (a.fdiv b) b]
    omega
  · have h5 : b * a.fdiv b = k * a.fdiv b * d := by
      rw [Int.mul_assoc, Int.mul_comm (a.fdiv b) d, ← Int.mul_assoc, ← h2]
    rw [Int.add_mul, ← h3, ← h5]
    omega
theorem com_turn {a b : Int} {f : Nat} (h : b ≠ 0) : whileM common_of_c1 common_of_b2 (f + 1) [.va (.int a), .va (.int b)] = whileM common_of_c1 common_of_b2 f [.va (.int b), .va (.int (a.fmod b))] := by
  have hb : (b != 0) = true := by simpa using h
  have hm := modG_int (i := a) h
  rw [e_while]
  unfold common_of_c1 common_of_b2
  simp only [sq_, seq_nx, seq_rt, seq_rf, seq_bk, seq_ct, seq_ex, loop_nx, loop_rt, loop_rf, loop_bk, loop_ct, loop_ex, s_ok_, s_ex_, bind_ok_, bind_ex_, map_ok_, map_ex_, opt_some_, nox_ok_, gd_true_, exprS_, retS_, retFS_, setS_, setOS_, ifS_, forS_, opM_, varR_, asB_, truM_, notM_, andM_, orM_, call1_, lstE_, consM_, aV_, someM_, slM_, raiseM_, andV_, orV_, ifM_, rd_va, rd_ow, rd_pa, addD_int, subD_int, ltG_int, leG_int, gtG_int, geG_int, intD1_int, intD1_bl, absD_int, lenD_lst, lenD_lsx, lenD_tup, canC_no, canC_va, canC_ow, eqD_int, neD_int, eqD_str, neD_str, e_opV, e_varM, e_rdR, e_get0, e_getS, e_set0, e_setS, e_bind, e_cst, e_setM, e_setO, canSet_, e_tgN, e_tgT, e_tgsNil, e_tgsCons, e_asgM, e_parM, e_tupM, e_lstM, e_notV, e_negM, e_seqA, e_chainM, e_callF1, e_sm1M, e_enumM, e_getL, e_list_ow, e_list_pa, e_own_ow, e_own_pa, e_getO, e_setW, e_appendM, e_aO, e_callG, e_cells0, e_cellsV, e_cellsO, e_omap, e_slots0, e_slotsV, e_slotsO, e_nodup0, e_nodup1, e_toR_ok, e_toR_ex, e_toF_fr, e_toF_ex, e_backO, e_backV, e_back0, e_tru_int, e_tru_bl, e_stepC, e_revF, listF, tupD, e_wipe0, e_wipeS, e_rest0, e_restS, e_for0, e_nox, e_plain_no, e_plain_va, e_all0, e_allS, Bool.and_self, Bool.true_and, fin_nx, fin_rt, fin_rf, fin_ex, kpD_kpc, e_kpc0, e_kpcS, keepC_pa, keepC_va, keepC_ow, keepC_no, if_true, if_false, Bool.true_eq, Bool.false_eq_true, decide_true, List.length_cons, List.length_nil, and_self, Nat.reduceAdd, Nat.reduceSub, Nat.reduceLeDiff, Nat.reduceEqDiff, Int.reduceNeg, hb, hm]
theorem com_end {a : Int} {f : Nat} : whileM common_of_c1 common_of_b2 (f + 1) [.va (.int a), .va (.int 0)] = .nx [.va (.int a), .va (.int 0)] := by
  rw [e_while]
  unfold common_of_c1 common_of_b2
  simp only [sq_, seq_nx, seq_rt, seq_rf, seq_bk, seq_ct, seq_ex, loop_nx, loop_rt, loop_rf, loop_bk, loop_ct, loop_ex, s_ok_, s_ex_, bind_ok_, bind_ex_, map_ok_, map_ex_, opt_some_, nox_ok_, gd_true_, exprS_, retS_, retFS_, setS_, setOS_, ifS_, forS_, opM_, varR_, asB_, truM_, notM_, andM_, orM_, call1_, lstE_, consM_, aV_, someM_, slM_, raiseM_, andV_, orV_, ifM_, rd_va, rd_ow, rd_pa, addD_int, subD_int, ltG_int, leG_int, gtG_int, geG_int, intD1_int, intD1_bl, absD_int, lenD_lst, lenD_lsx, lenD_tup, canC_no, canC_va, canC_ow, eqD_int, neD_int, eqD_str, neD_str, e_opV, e_varM, e_rdR, e_get0, e_getS, e_set0, e_setS, e_bind, e_cst, e_setM, e_setO, canSet_, e_tgN, e_tgT, e_tgsNil, e_tgsCons, e_asgM, e_parM, e_tupM, e_lstM, e_notV, e_negM, e_seqA, e_chainM, e_callF1, e_sm1M, e_enumM, e_getL, e_list_ow, e_list_pa, e_own_ow, e_own_pa, e_getO, e_setW, e_appendM, e_aO, e_callG, e_cells0, e_cellsV, e_cellsO, e_omap, e_slots0, e_slotsV, e_slotsO, e_nodup0, e_nodup1, e_toR_ok, e_toR_ex, e_toF_fr, e_toF_ex, e_backO, e_backV, e_back0, e_tru_int, e_tru_bl, e_stepC, e_revF, listF, tupD, e_wipe0, e_wipeS, e_rest0, e_restS, e_for0, e_nox, e_plain_no, e_plain_va, e_all0, e_allS, Bool.and_self, Bool.true_and, fin_nx, fin_rt, fin_rf, fin_ex, kpD_kpc, e_kpc0, e_kpcS, keepC_pa, keepC_va, keepC_ow, keepC_no, if_true, if_false, Bool.true_eq, Bool.false_eq_true, decide_true, List.length_cons, List.length_nil, and_self, Nat.reduceAdd, Nat.reduceSub, Nat.reduceLeDiff, Nat.reduceEqDiff, Int.reduceNeg, bne_self_eq_false]
theorem com_run : ∀ (k : Nat) (a b : Int) (f : Nat), b.natAbs < 2 ^ k → 2 * k + 2 ≤ f → ∃ d, Com d a b ∧ whileM common_of_c1 common_of_b2 f [.va (.int a), .va (.int b)] = .nx [.va (.int d), .va (.int 0)]
  | k, a, b, f, hb, hf => by
    obtain ⟨f, rfl⟩ : ∃ g, f = g + 2 := ⟨f - 2, by omega⟩
    by_cases h0 : b = 0
    · subst h0; exact ⟨a, Com.zero a, com_end⟩
    rw [com_turn h0]
    by_cases h1 : a.fmod b = 0
    · rw [h1]
      refine ⟨b, Com.back ?_, com_end⟩
      rw [h1]; exact Com.zero b
    rw [com_turn h1]
    have s := fmod_sign (a := a) (b := b)
    have l := fmod_lt (a := a) h0
    have h2 : 2 * (b.fmod (a.fmod b)).natAbs < b.natAbs := half_fmod (by omega) (by omega)
    cases k with
    | zero => simp at hb; omega
    | succ k =>
      rw [Nat.pow_succ] at hb
      obtain ⟨d, h3, h4⟩ := com_run k (a.fmod b) (b.fmod (a.fmod b)) f (by omega) (by omega)
      exact ⟨d, h3.back.back, h4⟩
theorem com_fn {a b : Int} (hb : b.natAbs < 2 ^ 2000) : ∃ d : Int, Com d a b ∧ 0 ≤ d ∧ F_common_of [.va (.int a), .va (.int b)] = .ok (.int d) [.no, .no] := by
  obtain ⟨d, h1, h2⟩ := com_run 2000 a b 20000 hb (by omega)
  have e : F_common_of [.va (.int a), .va (.int b)] = .ok (.int (if d < 0 then -d else d)) [.no, .no] := by
    unfold F_common_of
    rw [bodyF_]
    show (m_common_of [.va (.int a), .va (.int b)]).fin 2 = _
    unfold m_common_of
    simp only [sq_, seq_nx, seq_rt, seq_rf, seq_bk, seq_ct, seq_ex, loop_nx, loop_rt, loop_rf, loop_bk, loop_ct, loop_ex, s_ok_, s_ex_, bind_ok_, bind_ex_, map_ok_, map_ex_, opt_some_, nox_ok_, gd_true_, exprS_, retS_, retFS_, setS_, setOS_, ifS_, forS_, opM_, varR_, asB_, truM_, notM_, andM_, orM_, call1_, lstE_, consM_, aV_, someM_, slM_, raiseM_, andV_, orV_, ifM_, rd_va, rd_ow, rd_pa, addD_int, subD_int, ltG_int, leG_int, gtG_int, geG_int, intD1_int, intD1_bl, absD_int, lenD_lst, lenD_lsx, lenD_tup, canC_no, canC_va, canC_ow, eqD_int, neD_int, eqD_str, neD_str, e_opV, e_varM, e_rdR, e_get0, e_getS, e_set0, e_setS, e_bind, e_cst, e_setM, e_setO, canSet_, e_tgN, e_tgT, e_tgsNil, e_tgsCons, e_asgM, e_parM, e_tupM, e_lstM, e_notV, e_negM, e_seqA, e_chainM, e_callF1, e_sm1M, e_enumM, e_getL, e_list_ow, e_list_pa, e_own_ow, e_own_pa, e_getO, e_setW, e_appendM, e_aO, e_callG, e_cells0, e_cellsV, e_cellsO, e_omap, e_slots0, e_slotsV, e_slotsO, e_nodup0, e_nodup1, e_toR_ok, e_toR_ex, e_toF_fr, e_toF_ex, e_backO, e_backV, e_back0, e_tru_int, e_tru_bl, e_stepC, e_revF, listF, tupD, e_wipe0, e_wipeS, e_rest0, e_restS, e_for0, e_nox, e_plain_no, e_plain_va, e_all0, e_allS, Bool.and_self, Bool.true_and, fin_nx, fin_rt, fin_rf, fin_ex, kpD_kpc, e_kpc0, e_kpcS, keepC_pa, keepC_va, keepC_ow, keepC_no, if_true, if_false, Bool.true_eq, Bool.false_eq_true, decide_true, List.length_cons, List.length_nil, and_self, Nat.reduceAdd, Nat.reduceSub, Nat.reduceLeDiff, Nat.reduceEqDiff, Int.reduceNeg, h2]
  by_cases hd : d < 0
  · rw [if_pos hd] at e
    obtain ⟨⟨u, v, g1⟩, ⟨k, g2⟩, ⟨m, g3⟩⟩ := h1
    refine ⟨-d, ⟨⟨-u, -v, ?_⟩, ⟨-k, ?_⟩, ⟨-m, ?_⟩⟩, by omega, e⟩
    · rw [g1, Int.neg_mul, Int.neg_mul]; omega
    · rw [Int.neg_mul_neg]; exact g2
    · rw [Int.neg_mul_neg]; exact g3
  · rw [if_neg hd] at e
    exact ⟨d, h1, by omega, e⟩
end K77
end KL
set_option exponentiation.threshold 100000
/-! k77: enough_for. -/
namespace KL
namespace K77
open PySem L2
theorem abs_if (a : Int) : (if a < 0 then -a else a) = (a.natAbs : Int) := by split <;> omega
def comps2 (gs : List (Int × Int)) : List Int := gs.flatMap fun g => [(g.1.natAbs : Int), (g.2.natAbs : Int)]
theorem two_len (gs : List (Int × Int)) (f : Int × Int → List Int) (h : ∀ g, (f g).length = 2) : (gs.flatMap f).length = 2 * gs.length := by
  induction gs with
  | nil => rfl
  | cons g gs ih => rw [List.flatMap_cons, List.length_append, ih, h, List.length_cons]; omega
theorem comps2_map (gs : List (Int × Int)) : (gs.flatMap fun g => [g.1, g.2].map fun a => D.int (if a < 0 then -a else a)) = (comps2 gs).map D.int := by
  unfold comps2
  rw [List.map_flatMap]
  congr 1
  funext g
  show [D.int _, D.int _] = [D.int _, D.int _]
  rw [abs_if, abs_if]
theorem comps2_mem {gs : List (Int × Int)} {y : Int} : y ∈ comps2 gs ↔ ∃ g ∈ gs, y = (g.1.natAbs : Int) ∨ y = (g.2.natAbs : Int) := by
  unfold comps2
  rw [List.mem_flatMap]
  constructor
  · rintro ⟨g, hg, h⟩; exact ⟨g, hg, by simpa using h⟩
  · rintro ⟨g, hg, h⟩; exact ⟨g, hg, by simpa using h⟩
theorem enough_nil {gs : List (Int × Int)} (hl : gs.length < 1000) : ∃ m : Int, 0 ≤ m ∧ (∀ g ∈ gs, (g.1.natAbs : Int) ≤ m ∧ (g.2.natAbs : Int) ≤ m) ∧ (m = 0 ∨ ∃ g ∈ gs, m = (g.1.natAbs : Int) ∨ m = (g.2.natAbs : Int)) ∧
    F_enough_for [.va (.tup []), .va (.lst (pairsD gs))] = .ok (.int (1 + m)) [.no, .no] := by
  obtain ⟨m, hm, hmax, hle⟩ := maxD_int (l := 0 :: comps2 gs) (by simp)
  refine ⟨m, hle 0 (by simp), fun g hg => ⟨hle _ (List.mem_cons_of_mem _ (comps2_mem.mpr ⟨g, hg, .inl rfl⟩)), hle _ (List.mem_cons_of_mem _ (comps2_mem.mpr ⟨g, hg, .inr rfl⟩))⟩, (List.mem_cons.mp hm).imp id comps2_mem.mp, ?_⟩
  unfold F_enough_for
  rw [bodyF_]
  show (m_enough_for [.va (.tup []), .va (.lst (pairsD gs)), .no, .no, .no, .no, .no, .no]).fin 2 = _
  unfold m_enough_for
  have ht : truD (.tup []) = some false := rfl
  simp only [sq_, seq_nx, seq_rt, seq_rf, seq_bk, seq_ct, seq_ex, loop_nx, loop_rt, loop_rf, loop_bk, loop_ct, loop_ex, s_ok_, s_ex_, bind_ok_, bind_ex_, map_ok_, map_ex_, opt_some_, nox_ok_, gd_true_, exprS_, retS_, retFS_, setS_, setOS_, ifS_, forS_, opM_, varR_, asB_, truM_, notM_, andM_, orM_, call1_, lstE_, consM_, aV_, someM_, slM_, raiseM_, andV_, orV_, ifM_, rd_va, rd_ow, rd_pa, addD_int, subD_int, ltG_int, leG_int, gtG_int, geG_int, intD1_int, intD1_bl, absD_int, lenD_lst, lenD_lsx, lenD_tup, canC_no, canC_va, canC_ow, eqD_int, neD_int, eqD_str, neD_str, e_opV, e_varM, e_rdR, e_get0, e_getS, e_set0, e_setS, e_bind, e_cst, e_setM, e_setO, canSet_, e_tgN, e_tgT, e_tgsNil, e_tgsCons, e_asgM, e_parM, e_tupM, e_lstM, e_notV, e_negM, e_seqA, e_chainM, e_callF1, e_sm1M, e_enumM, e_getL, e_list_ow, e_list_pa, e_own_ow, e_own_pa, e_getO, e_setW, e_appendM, e_aO, e_callG, e_cells0, e_cellsV, e_cellsO, e_omap, e_slots0, e_slotsV, e_slotsO, e_nodup0, e_nodup1, e_toR_ok, e_toR_ex, e_toF_fr, e_toF_ex, e_backO, e_backV, e_back0, e_tru_int, e_tru_bl, e_stepC, e_revF, listF, tupD, e_wipe0, e_wipeS, e_rest0, e_restS, e_for0, e_nox, e_plain_no, e_plain_va, e_all0, e_allS, Bool.and_self, Bool.true_and, fin_nx, fin_rt, fin_rf, fin_ex, kpD_kpc, e_kpc0, e_kpcS, keepC_pa, keepC_va, keepC_ow, keepC_no, if_true, if_false, Bool.true_eq, Bool.false_eq_true, decide_true, List.length_cons, List.length_nil, and_self, Nat.reduceAdd, Nat.reduceSub, Nat.reduceLeDiff, Nat.reduceEqDiff, Int.reduceNeg, ht, Bool.not_false]
  rw [lc2M_m pr D.int (fun g : Int × Int => [g.1, g.2]) (fun _ a => .int (if a < 0 then -a else a)) (xs := gs) (hi := by simp only [sq_, seq_nx, seq_rt, seq_rf, seq_bk, seq_ct, seq_ex, loop_nx, loop_rt, loop_rf, loop_bk, loop_ct, loop_ex, s_ok_, s_ex_, bind_ok_, bind_ex_, map_ok_, map_ex_, opt_some_, nox_ok_, gd_true_, exprS_, retS_, retFS_, setS_, setOS_, ifS_, forS_, opM_, varR_, asB_, truM_, notM_, andM_, orM_, call1_, lstE_, consM_, aV_, someM_, slM_, raiseM_, andV_, orV_, ifM_, rd_va, rd_ow, rd_pa, addD_int, subD_int, ltG_int, leG_int, gtG_int, geG_int, intD1_int, intD1_bl, absD_int, lenD_lst, lenD_lsx, lenD_tup, canC_no, canC_va, canC_ow, eqD_int, neD_int, eqD_str, neD_str, e_opV, e_varM, e_rdR, e_get0, e_getS, e_set0, e_setS, e_bind, e_cst, e_setM, e_setO, canSet_, e_tgN, e_tgT, e_tgsNil, e_tgsCons, e_asgM, e_parM, e_tupM, e_lstM, e_notV, e_negM, e_seqA, e_chainM, e_callF1, e_sm1M, e_enumM, e_getL, e_list_ow, e_list_pa, e_own_ow, e_own_pa, e_getO, e_setW, e_appendM, e_aO, e_callG, e_cells0, e_cellsV, e_cellsO, e_omap, e_slots0, e_slotsV, e_slotsO, e_nodup0, e_nodup1, e_toR_ok, e_toR_ex, e_toF_fr, e_toF_ex, e_backO, e_backV, e_back0, e_tru_int, e_tru_bl, e_stepC, e_revF, listF, tupD, e_wipe0, e_wipeS, e_rest0, e_restS, e_for0, e_nox, e_plain_no, e_plain_va, e_all0, e_allS, Bool.and_self, Bool.true_and, fin_nx, fin_rt, fin_rf, fin_ex, kpD_kpc, e_kpc0, e_kpcS, keepC_pa, keepC_va, keepC_ow, keepC_no, if_true, if_false, Bool.true_eq, Bool.false_eq_true, decide_true, List.length_cons, List.length_nil, and_self, Nat.reduceAdd, Nat.reduceSub, Nat.reduceLeDiff, Nat.reduceEqDiff, Int.reduceNeg]; rfl) (hl := by rw [two_len _ _ (fun _ => rfl)]; omega) (hp := rfl) (h := fun g hg => ⟨_, _, _, rfl, rfl, rfl, rfl, fun a ha => ?_, rfl⟩)]
  · rw [comps2_map]
    have hc : catF (.lst [.int 0]) (.lst ((comps2 gs).map D.int)) = some ((0 :: comps2 gs).map D.int) := by
      rw [catF_ok]
      · rfl
      · rw [List.length_map]; unfold comps2; rw [two_len _ _ (fun _ => rfl)]; simp; omega
    simp only [sq_, seq_nx, seq_rt, seq_rf, seq_bk, seq_ct, seq_ex, loop_nx, loop_rt, loop_rf, loop_bk, loop_ct, loop_ex, s_ok_, s_ex_, bind_ok_, bind_ex_, map_ok_, map_ex_, opt_some_, nox_ok_, gd_true_, exprS_, retS_, retFS_, setS_, setOS_, ifS_, forS_, opM_, varR_, asB_, truM_, notM_, andM_, orM_, call1_, lstE_, consM_, aV_, someM_, slM_, raiseM_, andV_, orV_, ifM_, rd_va, rd_ow, rd_pa, addD_int, subD_int, ltG_int, leG_int, gtG_int, geG_int, intD1_int, intD1_bl, absD_int, lenD_lst, lenD_lsx, lenD_tup, canC_no, canC_va, canC_ow, eqD_int, neD_int, eqD_str, neD_str, e_opV, e_varM, e_rdR, e_get0, e_getS, e_set0, e_setS, e_bind, e_cst, e_setM, e_setO, canSet_, e_tgN, e_tgT, e_tgsNil, e_tgsCons, e_asgM, e_parM, e_tupM, e_lstM, e_notV, e_negM, e_seqA, e_chainM, e_callF1, e_sm1M, e_enumM, e_getL, e_list_ow, e_list_pa, e_own_ow, e_own_pa, e_getO, e_setW, e_appendM, e_aO, e_callG, e_cells0, e_cellsV, e_cellsO, e_omap, e_slots0, e_slotsV, e_slotsO, e_nodup0, e_nodup1, e_toR_ok, e_toR_ex, e_toF_fr, e_toF_ex, e_backO, e_backV, e_back0, e_tru_int, e_tru_bl, e_stepC, e_revF, listF, tupD, e_wipe0, e_wipeS, e_rest0, e_restS, e_for0, e_nox, e_plain_no, e_plain_va, e_all0, e_allS, Bool.and_self, Bool.true_and, fin_nx, fin_rt, fin_rf, fin_ex, kpD_kpc, e_kpc0, e_kpcS, keepC_pa, keepC_va, keepC_ow, keepC_no, if_true, if_false, Bool.true_eq, Bool.false_eq_true, decide_true, List.length_cons, List.length_nil, and_self, Nat.reduceAdd, Nat.reduceSub, Nat.reduceLeDiff, Nat.reduceEqDiff, Int.reduceNeg, hc, hmax]
  · simp only [sq_, seq_nx, seq_rt, seq_rf, seq_bk, seq_ct, seq_ex, loop_nx, loop_rt, loop_rf, loop_bk, loop_ct, loop_ex, s_ok_, s_ex_, bind_ok_, bind_ex_, map_ok_, map_ex_, opt_some_, nox_ok_, gd_true_, exprS_, retS_, retFS_, setS_, setOS_, ifS_, forS_, opM_, varR_, asB_, truM_, notM_, andM_, orM_, call1_, lstE_, consM_, aV_, someM_, slM_, raiseM_, andV_, orV_, ifM_, rd_va, rd_ow, rd_pa, addD_int, subD_int, ltG_int, leG_int, gtG_int, geG_int, intD1_int, intD1_bl, absD_int, lenD_lst, lenD_lsx, lenD_tup, canC_no, canC_va, canC_ow, eqD_int, neD_int, eqD_str, neD_str, e_opV, e_varM, e_rdR, e_get0, e_getS, e_set0, e_setS, e_bind, e_cst, e_setM, e_setO, canSet_, e_tgN, e_tgT, e_tgsNil, e_tgsCons, e_asgM, e_parM, e_tupM, e_lstM, e_notV, e_negM, e_seqA, e_chainM, e_callF1, e_sm1M, e_enumM, e_getL, e_list_ow, e_list_pa, e_own_ow, e_own_pa, e_getO, e_setW, e_appendM, e_aO, e_callG, e_cells0, e_cellsV, e_cellsO, e_omap, e_slots0, e_slotsV, e_slotsO, e_nodup0, e_nodup1, e_toR_ok, e_toR_ex, e_toF_fr, e_toF_ex, e_backO, e_backV, e_back0, e_tru_int, e_tru_bl, e_stepC, e_revF, listF, tupD, e_wipe0, e_wipeS, e_rest0, e_restS, e_for0, e_nox, e_plain_no, e_plain_va, e_all0, e_allS, Bool.and_self, Bool.true_and, fin_nx, fin_rt, fin_rf, fin_ex, kpD_kpc, e_kpc0, e_kpcS, keepC_pa, keepC_va, keepC_ow, keepC_no, if_true, if_false, Bool.true_eq, Bool.false_eq_true, decide_true, List.length_cons, List.length_nil, and_self, Nat.reduceAdd, Nat.reduceSub, Nat.reduceLeDiff, Nat.reduceEqDiff, Int.reduceNeg]
def far (f s d : Int) (g : Int × Int) : Int := g.1 * s.fdiv d - g.2 * f.fdiv d
theorem enough_one {gs : List (Int × Int)} {f s : Int} (hl : gs.length < 1000) (hf : f.natAbs < 2 ^ 1000) (hs : s.natAbs < 2 ^ 1000) (hn : f ≠ 0 ∨ s ≠ 0) (hg : ∀ g ∈ gs, g.1.natAbs < 2 ^ 1000 ∧ g.2.natAbs < 2 ^ 1000) :
    ∃ d m : Int, 0 < d ∧ Com d f s ∧ 0 ≤ m ∧ (∀ g ∈ gs, ((far f s d g).natAbs : Int) ≤ m) ∧ (m = 0 ∨ ∃ g ∈ gs, m = ((far f s d g).natAbs : Int)) ∧ (d.natAbs < 2 ^ 1000 → m.natAbs < 2 ^ 3000 → F_enough_for [.va (.tup [pr (f, s)]), .va (.lst (pairsD gs))] = .ok (.int (d * (1 + m))) [.no, .no]) := by
  obtain ⟨d, hd, hd0, hcom⟩ := com_fn (a := f) (b := s) (Nat.lt_of_lt_of_le hs (Nat.pow_le_pow_right (by omega) (by omega)))
  have hdn : d ≠ 0 := by
    intro z
    obtain ⟨_, ⟨k, h1⟩, ⟨n, h2⟩⟩ := hd
    rw [z] at h1 h2
    omega
  obtain ⟨m, hm, hmax, hle⟩ := maxD_int (l := 0 :: gs.map fun g => ((far f s d g).natAbs : Int)) (by simp)
  refine ⟨d, m, by omega, hd, hle 0 (by simp), fun g hg => hle _ (List.mem_cons_of_mem _ (List.mem_map.mpr ⟨g, hg, rfl⟩)), (List.mem_cons.mp hm).imp id fun h => let ⟨g, a, b⟩ := List.mem_map.mp h; ⟨g, a, b.symm⟩, fun hd1 hm1 => ?_⟩
  unfold F_enough_for
  rw [bodyF_]
  show (m_enough_for [.va (.tup [pr (f, s)]), .va (.lst (pairsD gs)), .no, .no, .no, .no, .no, .no]).fin 2 = _
  unfold m_enough_for
  have ht : truD (.tup [pr (f, s)]) = some true := rfl
  have h0 : ixD (.tup [pr (f, s)]) (.int 0) = some (pr (f, s)) := rfl
  simp only [sq_, seq_nx, seq_rt, seq_rf, seq_bk, seq_ct, seq_ex, loop_nx, loop_rt, loop_rf, loop_bk, loop_ct, loop_ex, s_ok_, s_ex_, bind_ok_, bind_ex_, map_ok_, map_ex_, opt_some_, nox_ok_, gd_true_, exprS_, retS_, retFS_, setS_, setOS_, ifS_, forS_, opM_, varR_, asB_, truM_, notM_, andM_, orM_, call1_, lstE_, consM_, aV_, someM_, slM_, raiseM_, andV_, orV_, ifM_, rd_va, rd_ow, rd_pa, addD_int, subD_int, ltG_int, leG_int, gtG_int, geG_int, intD1_int, intD1_bl, absD_int, lenD_lst, lenD_lsx, lenD_tup, canC_no, canC_va, canC_ow, eqD_int, neD_int, eqD_str, neD_str, e_opV, e_varM, e_rdR, e_get0, e_getS, e_set0, e_setS, e_bind, e_cst, e_setM, e_setO, canSet_, e_tgN, e_tgT, e_tgsNil, e_tgsCons, e_asgM, e_parM, e_tupM, e_lstM, e_notV, e_negM, e_seqA, e_chainM, e_callF1, e_sm1M, e_enumM, e_getL, e_list_ow, e_list_pa, e_own_ow, e_own_pa, e_getO, e_setW, e_appendM, e_aO, e_callG, e_cells0, e_cellsV, e_cellsO, e_omap, e_slots0, e_slotsV, e_slotsO, e_nodup0, e_nodup1, e_toR_ok, e_toR_ex, e_toF_fr, e_toF_ex, e_backO, e_backV, e_back0, e_tru_int, e_tru_bl, e_stepC, e_revF, listF, tupD, e_wipe0, e_wipeS, e_rest0, e_restS, e_for0, e_nox, e_plain_no, e_plain_va, e_all0, e_allS, Bool.and_self, Bool.true_and, fin_nx, fin_rt, fin_rf, fin_ex, kpD_kpc, e_kpc0, e_kpcS, keepC_pa, keepC_va, keepC_ow, keepC_no, if_true, if_false, Bool.true_eq, Bool.false_eq_true, decide_true, List.length_cons, List.length_nil, and_self, Nat.reduceAdd, Nat.reduceSub, Nat.reduceLeDiff, Nat.reduceEqDiff, Int.reduceNeg, ht, Bool.not_true, h0, hcom]
  have d1 : divG (.int s) (.int d) = some (.int (s.fdiv d)) := divG_int hdn (Nat.lt_of_lt_of_le hd1 (Nat.pow_le_pow_right (by omega) (by omega)))
  have d2 : divG (.int f) (.int d) = some (.int (f.fdiv d)) := divG_int hdn (Nat.lt_of_lt_of_le hd1 (Nat.pow_le_pow_right (by omega) (by omega)))
  have q1 : (s.fdiv d).natAbs < 2 ^ 1001 := by have := fdiv_abs (a := s) (b := d); rw [Nat.pow_succ]; omega
  have q2 : (f.fdiv d).natAbs < 2 ^ 1001 := by have := fdiv_abs (a := f) (b := d); rw [Nat.pow_succ]; omega
  rw [lcM_m pr (fun g => .int ((far f s d g).natAbs : Int)) (xs := gs) (hi := by simp only [sq_, seq_nx, seq_rt, seq_rf, seq_bk, seq_ct, seq_ex, loop_nx, loop_rt, loop_rf, loop_bk, loop_ct, loop_ex, s_ok_, s_ex_, bind_ok_, bind_ex_, map_ok_, map_ex_, opt_some_, nox_ok_, gd_true_, exprS_, retS_, retFS_, setS_, setOS_, ifS_, forS_, opM_, varR_, asB_, truM_, notM_, andM_, orM_, call1_, lstE_, consM_, aV_, someM_, slM_, raiseM_, andV_, orV_, ifM_, rd_va, rd_ow, rd_pa, addD_int, subD_int, ltG_int, leG_int, gtG_int, geG_int, intD1_int, intD1_bl, absD_int, lenD_lst, lenD_lsx, lenD_tup, canC_no, canC_va, canC_ow, eqD_int, neD_int, eqD_str, neD_str, e_opV, e_varM, e_rdR, e_get0, e_getS, e_set0, e_setS, e_bind, e_cst, e_setM, e_setO, canSet_, e_tgN, e_tgT, e_tgsNil, e_tgsCons, e_asgM, e_parM, e_tupM, e_lstM, e_notV, e_negM, e_seqA, e_chainM, e_callF1, e_sm1M, e_enumM, e_getL, e_list_ow, e_list_pa, e_own_ow, e_own_pa, e_getO, e_setW, e_appendM, e_aO, e_callG, e_cells0, e_cellsV, e_cellsO, e_omap, e_slots0, e_slotsV, e_slotsO, e_nodup0, e_nodup1, e_toR_ok, e_toR_ex, e_toF_fr, e_toF_ex, e_backO, e_backV, e_back0, e_tru_int, e_tru_bl, e_stepC, e_revF, listF, tupD, e_wipe0, e_wipeS, e_rest0, e_restS, e_for0, e_nox, e_plain_no, e_plain_va, e_all0, e_allS, Bool.and_self, Bool.true_and, fin_nx, fin_rt, fin_rf, fin_ex, kpD_kpc, e_kpc0, e_kpcS, keepC_pa, keepC_va, keepC_ow, keepC_no, if_true, if_false, Bool.true_eq, Bool.false_eq_true, decide_true, List.length_cons, List.length_nil, and_self, Nat.reduceAdd, Nat.reduceSub, Nat.reduceLeDiff, Nat.reduceEqDiff, Int.reduceNeg]; rfl) (hl := by omega) (hp := rfl) (h := fun g hgg => ?_)]
  · have hc : catF (.lst [.int 0]) (.lst (gs.map fun g => D.int ((far f s d g).natAbs : Int))) = some ((0 :: gs.map fun g => ((far f s d g).natAbs : Int)).map D.int) := by
      rw [catF_ok]
      · rw [List.map_cons, List.map_map]; rfl
      · rw [List.length_map]; simp; omega
    have hmm : mulG (.int d) (.int (1 + m)) = some (.int (d * (1 + m))) := mulG_int hd1 (b := 3001) (by rw [Nat.pow_succ]; omega) (by omega)
    simp only [sq_, seq_nx, seq_rt, seq_rf, seq_bk, seq_ct, seq_ex, loop_nx, loop_rt, loop_rf, loop_bk, loop_ct, loop_ex, s_ok_, s_ex_, bind_ok_, bind_ex_, map_ok_, map_ex_, opt_some_, nox_ok_, gd_true_, exprS_, retS_, retFS_, setS_, setOS_, ifS_, forS_, opM_, varR_, asB_, truM_, notM_, andM_, orM_, call1_, lstE_, consM_, aV_, someM_, slM_, raiseM_, andV_, orV_, ifM_, rd_va, rd_ow, rd_pa, addD_int, subD_int, ltG_int, leG_int, gtG_int, geG_int, intD1_int, intD1_bl, absD_int, lenD_lst, lenD_lsx, lenD_tup, canC_no, canC_va, canC_ow, eqD_int, neD_int, eqD_str, neD_str, e_opV, e_varM, e_rdR, e_get0, e_getS, e_set0, e_setS, e_bind, e_cst, e_setM, e_setO, canSet_, e_tgN, e_tgT, e_tgsNil, e_tgsCons, e_asgM, e_parM, e_tupM, e_lstM, e_notV, e_negM, e_seqA, e_chainM, e_callF1, e_sm1M, e_enumM, e_getL, e_list_ow, e_list_pa, e_own_ow, e_own_pa, e_getO, e_setW, e_appendM, e_aO, e_callG, e_cells0, e_cellsV, e_cellsO, e_omap, e_slots0, e_slotsV, e_slotsO, e_nodup0, e_nodup1, e_toR_ok, e_toR_ex, e_toF_fr, e_toF_ex, e_backO, e_backV, e_back0, e_tru_int, e_tru_bl, e_stepC, e_revF, listF, tupD, e_wipe0, e_wipeS, e_rest0, e_restS, e_for0, e_nox, e_plain_no, e_plain_va, e_all0, e_allS, Bool.and_self, Bool.true_and, fin_nx, fin_rt, fin_rf, fin_ex, kpD_kpc, e_kpc0, e_kpcS, keepC_pa, keepC_va, keepC_ow, keepC_no, if_true, if_false, Bool.true_eq, Bool.false_eq_true, decide_true, List.length_cons, List.length_nil, and_self, Nat.reduceAdd, Nat.reduceSub, Nat.reduceLeDiff, Nat.reduceEqDiff, Int.reduceNeg, hc, hmax, hmm]
  · have i0 : ixD (pr g) (.int 0) = some (.int g.1) := rfl
    have i1 : ixD (pr g) (.int 1) = some (.int g.2) := rfl
    have m1 := mulG_int (hg g hgg).1 q1 (by omega)
    have m2 := mulG_int (hg g hgg).2 q2 (by omega)
    simp only [sq_, seq_nx, seq_rt, seq_rf, seq_bk, seq_ct, seq_ex, loop_nx, loop_rt, loop_rf, loop_bk, loop_ct, loop_ex, s_ok_, s_ex_, bind_ok_, bind_ex_, map_ok_, map_ex_, opt_some_, nox_ok_, gd_true_, exprS_, retS_, retFS_, setS_, setOS_, ifS_, forS_, opM_, varR_, asB_, truM_, notM_, andM_, orM_, call1_, lstE_, consM_, aV_, someM_, slM_, raiseM_, andV_, orV_, ifM_, rd_va, rd_ow, rd_pa, addD_int, subD_int, ltG_int, leG_int, gtG_int, geG_int, intD1_int, intD1_bl, absD_int, lenD_lst, lenD_lsx, lenD_tup, canC_no, canC_va, canC_ow, eqD_int, neD_int, eqD_str, neD_str, e_opV, e_varM, e_rdR, e_get0, e_getS, e_set0, e_setS, e_bind, e_cst, e_setM, e_setO, canSet_, e_tgN, e_tgT, e_tgsNil, e_tgsCons, e_asgM, e_parM, e_tupM, e_lstM, e_notV, e_negM, e_seqA, e_chainM, e_callF1, e_sm1M, e_enumM, e_getL, e_list_ow, e_list_pa, e_own_ow, e_own_pa, e_getO, e_setW, e_appendM, e_aO, e_callG, e_cells0, e_cellsV, e_cellsO, e_omap, e_slots0, e_slotsV, e_slotsO, e_nodup0, e_nodup1, e_toR_ok, e_toR_ex, e_toF_fr, e_toF_ex, e_backO, e_backV, e_back0, e_tru_int, e_tru_bl, e_stepC, e_revF, listF, tupD, e_wipe0, e_wipeS, e_rest0, e_restS, e_for0, e_nox, e_plain_no, e_plain_va, e_all0, e_allS, Bool.and_self, Bool.true_and, fin_nx, fin_rt, fin_rf, fin_ex, kpD_kpc, e_kpc0, e_kpcS, keepC_pa, keepC_va, keepC_ow, keepC_no, if_true, if_false, Bool.true_eq, Bool.false_eq_true, decide_true, List.length_cons, List.length_nil, and_self, Nat.reduceAdd, Nat.reduceSub, Nat.reduceLeDiff, Nat.reduceEqDiff, Int.reduceNeg, i0, i1, d1, d2, m1, m2, abs_if]
    rfl
end K77
end KL
set_option exponentiation.threshold 100000
/-! k77: ring_for. -/
namespace KL
namespace K77
open PySem L2
theorem ring_of_fn {S T M z : Int} (h : S ≠ 0) : F_ring_of [.va (.tup [pr (S, z), pr (T, M)])] = .ok (.tup [.int S, .int M, .int ((-T).fmod S)]) [.no] := by
  have hm := modG_int (i := -T) h
  unfold F_ring_of
  rw [bodyF_]
  show (m_ring_of [.va (.tup [pr (S, z), pr (T, M)]), .no, .no, .no, .no]).fin 1 = _
  unfold m_ring_of
  simp only [sq_, seq_nx, seq_rt, seq_rf, seq_bk, seq_ct, seq_ex, loop_nx, loop_rt, loop_rf, loop_bk, loop_ct, loop_ex, s_ok_, s_ex_, bind_ok_, bind_ex_, map_ok_, map_ex_, opt_some_, nox_ok_, gd_true_, exprS_, retS_, retFS_, setS_, setOS_, ifS_, forS_, opM_, varR_, asB_, truM_, notM_, andM_, orM_, call1_, lstE_, consM_, aV_, someM_, slM_, raiseM_, andV_, orV_, ifM_, rd_va, rd_ow, rd_pa, addD_int, subD_int, ltG_int, leG_int, gtG_int, geG_int, intD1_int, intD1_bl, absD_int, lenD_lst, lenD_lsx, lenD_tup, canC_no, canC_va, canC_ow, eqD_int, neD_int, eqD_str, neD_str, e_opV, e_varM, e_rdR, e_get0, e_getS, e_set0, e_setS, e_bind, e_cst, e_setM, e_setO, canSet_, e_tgN, e_tgT, e_tgsNil, e_tgsCons, e_asgM, e_parM, e_tupM, e_lstM, e_notV, e_negM, e_seqA, e_chainM, e_callF1, e_sm1M, e_enumM, e_getL, e_list_ow, e_list_pa, e_own_ow, e_own_pa, e_getO, e_setW, e_appendM, e_aO, e_callG, e_cells0, e_cellsV, e_cellsO, e_omap, e_slots0, e_slotsV, e_slotsO, e_nodup0, e_nodup1, e_toR_ok, e_toR_ex, e_toF_fr, e_toF_ex, e_backO, e_backV, e_back0, e_tru_int, e_tru_bl, e_stepC, e_revF, listF, tupD, e_wipe0, e_wipeS, e_rest0, e_restS, e_for0, e_nox, e_plain_no, e_plain_va, e_all0, e_allS, Bool.and_self, Bool.true_and, fin_nx, fin_rt, fin_rf, fin_ex, kpD_kpc, e_kpc0, e_kpcS, keepC_pa, keepC_va, keepC_ow, keepC_no, if_true, if_false, Bool.true_eq, Bool.false_eq_true, decide_true, List.length_cons, List.length_nil, and_self, Nat.reduceAdd, Nat.reduceSub, Nat.reduceLeDiff, Nat.reduceEqDiff, Int.reduceNeg, pr, hm]
theorem rank2 {qs : List (Int × Int)} {fs : List (List Int)} {m : Int} (ok : FormOk qs fs) (hm : m ≠ 0) (h1 : Gen qs m 0) (h2 : Gen qs 0 m) : ∃ l h, fs = [l, h] ∧ 0 < at_ 0 l ∧ at_ 1 l = 0 ∧ 0 < at_ 1 h := by
  rw [ok.same.iff] at h1 h2
  have sh := ok.shape
  cases sh with
  | zero => rw [List.map_nil, gen_nil] at h1; omega
  | @low l a b =>
    have e : List.map xy [l] = [(at_ 0 l, 0)] := by rw [List.map_cons, List.map_nil]; show [(at_ 0 l, at_ 1 l)] = _; rw [b]
    rw [e, gen_one] at h2
    obtain ⟨k, _, g⟩ := h2
    omega
  | @high h a =>
    rw [List.map_cons, List.map_nil, gen_one] at h1
    obtain ⟨k, g1, g2⟩ := h1
    have g2 : 0 = k * at_ 1 h := g2
    have : k = 0 := by
      rcases Int.mul_eq_zero.mp g2.symm with z | z
      · exact z
      · omega
    rw [this] at g1
    omega
  | both a b c _ _ => exact ⟨_, _, rfl, a, b, c⟩
theorem all_zero {ps : List (Int × Int)} {x y : Int} (h : ∀ p ∈ ps, p.1 = 0 ∧ p.2 = 0) (g : Gen ps x y) : x = 0 ∧ y = 0 := by
  induction g with
  | zero => exact ⟨rfl, rfl⟩
  | @add p hp k x y _ ih =>
    obtain ⟨a, b⟩ := h p hp
    rw [a, b, ih.1, ih.2]; omega
theorem one_bound {ps : List (Int × Int)} {f s : Int} {B : Nat} (hs : ∀ q ∈ ps, q.1.natAbs ≤ B ∧ q.2.natAbs ≤ B) (h : Same ps [(f, s)]) (hn : f ≠ 0 ∨ s ≠ 0) : f.natAbs ≤ B ∧ s.natAbs ≤ B := by
  by_cases hz : ∀ p ∈ ps, p.1 = 0 ∧ p.2 = 0
  · have := all_zero hz (h.2 (f, s) (by simp))
    simp at this; omega
  · have hz : ∃ p, p ∈ ps ∧ ¬ (p.1 = 0 ∧ p.2 = 0) := by
      apply Classical.byContradiction
      intro hc
      exact hz fun p hp => Classical.byContradiction fun hq => hc ⟨p, hp, hq⟩
    obtain ⟨p, hp, hq⟩ := hz
    obtain ⟨k, h1, h2⟩ := gen_one.mp (h.1 p hp)
    have hk : k ≠ 0 := by
      intro z
      rw [z] at h1 h2
      omega
    have hb := hs p hp
    rw [h1, h2, Int.natAbs_mul, Int.natAbs_mul] at hb
    have k1 : 1 ≤ k.natAbs := by omega
    have a1 : 1 * f.natAbs ≤ k.natAbs * f.natAbs := Nat.mul_le_mul_right _ k1
    have a2 : 1 * s.natAbs ≤ k.natAbs * s.natAbs := Nat.mul_le_mul_right _ k1
    omega
theorem small_zero {m w : Int} (h : (m * w).natAbs < m.natAbs) : w = 0 := by
  rw [Int.natAbs_mul] at h
  have : w.natAbs = 0 := by
    cases q : w.natAbs with
    | zero => rfl
    | succ n => rw [q, Nat.mul_succ] at h; omega
  omega
theorem gen_three {a b c d e f x y : Int} (g : Gen [(a, b), (c, d), (e, f)] x y) : ∃ k u v, x = k * a + u * c + v * e ∧ y = k * b + u * d + v * f := by
  induction g with
  | zero => exact ⟨0, 0, 0, by omega, by omega⟩
  | @add p h n x y _ ih =>
    obtain ⟨k, u, v, h1, h2⟩ := ih
    have : p = (a, b) ∨ p = (c, d) ∨ p = (e, f) := by simpa using h
    rcases this with rfl | rfl | rfl
    · exact ⟨k + n, u, v, by rw [h1, Int.add_mul]; show _ + n * a = _; omega, by rw [h2, Int.add_mul]; show _ + n * b = _; omega⟩
    · exact ⟨k, u + n, v, by rw [h1, Int.add_mul]; show _ + n * c = _; omega, by rw [h2, Int.add_mul]; show _ + n * d = _; omega⟩
    · exact ⟨k, u, v + n, by rw [h1, Int.add_mul]; show _ + n * e = _; omega, by rw [h2, Int.add_mul]; show _ + n * f = _; omega⟩
/-- nothing near comes in, rank 1 -/
theorem none_one {ps : List (Int × Int)} {f s d m x y : Int} (h : Same ps [(f, s)]) (hc : Com d f s) (hd : 0 < d) (hm : 0 ≤ m) (hf : ((far f s d (x, y)).natAbs : Int) ≤ m) (g : Gen (ps ++ [(d * (1 + m), 0), (0, d * (1 + m))]) x y) : Gen ps x y := by
  have g3 : Gen [(f, s), (d * (1 + m), 0), (0, d * (1 + m))] x y := g.of fun p hp => by
    rcases List.mem_append.mp hp with hp | hp
    · exact (h.1 p hp).of fun q hq => Gen.mem (by rw [List.mem_singleton.mp hq]; simp)
    · exact Gen.mem (List.mem_cons_of_mem _ hp)
  obtain ⟨k, u, v, h1, h2⟩ := gen_three g3
  obtain ⟨⟨a, b, c1⟩, ⟨f', c2⟩, ⟨s', c3⟩⟩ := hc
  have e1 : f.fdiv d = f' := by rw [c2]; exact Int.mul_fdiv_cancel f' (by omega)
  have e2 : s.fdiv d = s' := by rw [c3]; exact Int.mul_fdiv_cancel s' (by omega)
  have hfar : far f s d (x, y) = (d * (1 + m)) * (u * s' - v * f') := by
    unfold far
    rw [e1, e2]
    show x * s' - y * f' = _
    rw [h1, h2, c2, c3]
    grind
  have dm : 1 + m ≤ d * (1 + m) := by
    have : 1 * (1 + m) ≤ d * (1 + m) := Int.mul_le_mul_of_nonneg_right (by omega) (by omega)
    omega
  have hw : u * s' - v * f' = 0 := by
    apply small_zero (m := d * (1 + m))
    rw [← hfar]; omega
  have hbz : a * f' + b * s' = 1 := by
    have : d * (a * f' + b * s') = d * 1 := by
      rw [Int.mul_one]
      conv => rhs; rw [c1]
      rw [c2, c3]; grind
    exact Int.eq_of_mul_eq_mul_left (by omega) this
  have hu : u = (a * u + b * v) * f' := by grind
  have hv : v = (a * u + b * v) * s' := by grind
  refine (h.iff).mpr (gen_one.mpr ⟨k + (a * u + b * v) * (1 + m), ?_, ?_⟩)
  · rw [h1, c2]; grind
  · rw [h2, c3]; grind
theorem none_zero {ps : List (Int × Int)} {m x y : Int} (h : ∀ p ∈ ps, p.1 = 0 ∧ p.2 = 0) (hm : 0 ≤ m) (hx : (x.natAbs : Int) ≤ m ∧ (y.natAbs : Int) ≤ m) (g : Gen (ps ++ [(1 + m, 0), (0, 1 + m)]) x y) : Gen ps x y := by
  have g3 : Gen [(1 + m, 0), (0, 1 + m)] x y := g.of fun p hp => by
    rcases List.mem_append.mp hp with hp | hp
    · obtain ⟨a, b⟩ := h p hp
      rw [a, b]; exact .zero
    · exact Gen.mem hp
  obtain ⟨u, v, h1, h2⟩ := gen_two.mp g3
  have a1 : u = 0 := small_zero (m := 1 + m) (by rw [Int.mul_comm]; omega)
  have a2 : v = 0 := small_zero (m := 1 + m) (by rw [Int.mul_comm]; omega)
  rw [a1, a2] at h1 h2
  exact Gen.zero.cast (by omega) (by omega)
end K77
end KL
set_option exponentiation.threshold 100000
/-! k77: ring_for, the whole of it. -/
namespace KL
namespace K77
open PySem L2
theorem Same.app {ps qs : List (Int × Int)} {p : Int × Int} (h : p ∈ ps) : Gen (ps ++ qs) p.1 p.2 := Gen.mem (List.mem_append_left _ h)
/-- the end of ring_for -/
theorem ring_end {ps gs : List (Int × Int)} {T M z : Int} {l h : List Int} {c3 : Cell} (h0 : 0 < at_ 0 l) (k3 : Cell → Prop) :
    (SRes.fin 2 (retS (callM F_ring_of (aV (varM 2) (cst ([] : List Arg)))) [.va (.lst (pairsD ps)), .va (.lst (pairsD gs)), .va (.tup (pairsD ([l, h].map xy))), c3])) = .ok (.tup [.int (at_ 0 l), .int (at_ 1 h), .int ((-(at_ 0 h)).fmod (at_ 0 l))]) [.no, .no] := by
  have e : F_ring_of [.va (.tup (pairsD ([l, h].map xy)))] = .ok (.tup [.int (at_ 0 l), .int (at_ 1 h), .int ((-(at_ 0 h)).fmod (at_ 0 l))]) [.no] := ring_of_fn (S := at_ 0 l) (T := at_ 0 h) (M := at_ 1 h) (z := at_ 1 l) (by omega)
  simp only [sq_, seq_nx, seq_rt, seq_rf, seq_bk, seq_ct, seq_ex, loop_nx, loop_rt, loop_rf, loop_bk, loop_ct, loop_ex, s_ok_, s_ex_, bind_ok_, bind_ex_, map_ok_, map_ex_, opt_some_, nox_ok_, gd_true_, exprS_, retS_, retFS_, setS_, setOS_, ifS_, forS_, opM_, varR_, asB_, truM_, notM_, andM_, orM_, call1_, lstE_, consM_, aV_, someM_, slM_, raiseM_, andV_, orV_, ifM_, rd_va, rd_ow, rd_pa, addD_int, subD_int, ltG_int, leG_int, gtG_int, geG_int, intD1_int, intD1_bl, absD_int, lenD_lst, lenD_lsx, lenD_tup, canC_no, canC_va, canC_ow, eqD_int, neD_int, eqD_str, neD_str, e_opV, e_varM, e_rdR, e_get0, e_getS, e_set0, e_setS, e_bind, e_cst, e_setM, e_setO, canSet_, e_tgN, e_tgT, e_tgsNil, e_tgsCons, e_asgM, e_parM, e_tupM, e_lstM, e_notV, e_negM, e_seqA, e_chainM, e_callF1, e_sm1M, e_enumM, e_getL, e_list_ow, e_list_pa, e_own_ow, e_own_pa, e_getO, e_setW, e_appendM, e_aO, e_callG, e_cells0, e_cellsV, e_cellsO, e_omap, e_slots0, e_slotsV, e_slotsO, e_nodup0, e_nodup1, e_toR_ok, e_toR_ex, e_toF_fr, e_toF_ex, e_backO, e_backV, e_back0, e_tru_int, e_tru_bl, e_stepC, e_range1M, e_augPutM, e_aug1, e_aug2, e_putL, e_revF, listF, tupD, e_wipe0, e_wipeS, e_rest0, e_restS, e_for0, e_nox, e_plain_no, e_plain_va, e_all0, e_allS, Bool.and_self, Bool.true_and, fin_nx, fin_rt, fin_rf, fin_ex, kpD_kpc, e_kpc0, e_kpcS, keepC_pa, keepC_va, keepC_ow, keepC_no, if_true, if_false, Bool.true_eq, Bool.false_eq_true, decide_true, List.length_cons, List.length_nil, and_self, Nat.reduceAdd, Nat.reduceSub, Nat.reduceLeDiff, Nat.reduceEqDiff, Int.reduceNeg, e]
theorem ring_fn {ps gs : List (Int × Int)} (hl : ps.length ≤ 8) (hs : ∀ q ∈ ps, q.1.natAbs ≤ 2 ^ 44 ∧ q.2.natAbs ≤ 2 ^ 44) (hgl : gs.length < 1000) (hg : ∀ g ∈ gs, g.1.natAbs ≤ 2 ^ 48 ∧ g.2.natAbs ≤ 2 ^ 48) :
    ∃ S T M : Int, 0 < S ∧ 0 < M ∧ S.natAbs ≤ 2 ^ 5300 ∧ M.natAbs ≤ 2 ^ 5300 ∧ (∀ p ∈ ps, Gen [(S, 0), (T, M)] p.1 p.2) ∧ (∀ g ∈ gs, Gen [(S, 0), (T, M)] g.1 g.2 → Gen ps g.1 g.2) ∧
      F_ring_for [.va (.lst (pairsD ps)), .va (.lst (pairsD gs))] = .ok (.tup [.int S, .int M, .int ((-T).fmod S)]) [.no, .no] := by
  obtain ⟨fs, ok, _, e⟩ := sums_fn (k := 44) (by omega) (by omega) hs
  have kg := check_lst gs
  have two : ∀ (l h : List Int), 0 < at_ 0 l → at_ 1 l = 0 → 0 < at_ 1 h → fs = [l, h] → ∃ S T M : Int, 0 < S ∧ 0 < M ∧ S.natAbs ≤ 2 ^ 5300 ∧ M.natAbs ≤ 2 ^ 5300 ∧ (∀ p ∈ ps, Gen [(S, 0), (T, M)] p.1 p.2) ∧ (∀ g ∈ gs, Gen [(S, 0), (T, M)] g.1 g.2 → Gen ps g.1 g.2) ∧
      F_ring_for [.va (.lst (pairsD ps)), .va (.lst (pairsD gs))] = .ok (.tup [.int S, .int M, .int ((-T).fmod S)]) [.no, .no] := by
    intro l h h0 h1 h2 hfs
    have hx : fs.map xy = [(at_ 0 l, 0), (at_ 0 h, at_ 1 h)] := by rw [hfs, List.map_cons, List.map_cons, List.map_nil]; show [(at_ 0 l, at_ 1 l), _] = _; rw [h1]
    have sm := ok.same
    rw [hx] at sm
    refine ⟨at_ 0 l, at_ 0 h, at_ 1 h, h0, h2, (ok.col l (by rw [hfs]; simp)).1, (ok.col h (by rw [hfs]; simp)).2, fun p hp => sm.1 p hp, fun g _ => sm.iff.mpr, ?_⟩
    have e3 := ring_end (ps := ps) (gs := gs) (T := 0) (M := 0) (z := 0) (l := l) (h := h) (c3 := .no) h0 (fun _ => True)
    rw [← hfs] at e3
    unfold F_ring_for
    rw [bodyF_]
    show (m_ring_for [.va (.lst (pairsD ps)), .va (.lst (pairsD gs)), .no, .no]).fin 2 = _
    rw [← e3]
    have hlt : ¬ (((pairsD (fs.map xy)).length : Int) < 2) := by rw [hfs]; simp
    unfold m_ring_for
    simp only [sq_, seq_nx, seq_rt, seq_rf, seq_bk, seq_ct, seq_ex, loop_nx, loop_rt, loop_rf, loop_bk, loop_ct, loop_ex, s_ok_, s_ex_, bind_ok_, bind_ex_, map_ok_, map_ex_, opt_some_, nox_ok_, gd_true_, exprS_, retS_, retFS_, setS_, setOS_, ifS_, forS_, opM_, varR_, asB_, truM_, notM_, andM_, orM_, call1_, lstE_, consM_, aV_, someM_, slM_, raiseM_, andV_, orV_, ifM_, rd_va, rd_ow, rd_pa, addD_int, subD_int, ltG_int, leG_int, gtG_int, geG_int, intD1_int, intD1_bl, absD_int, lenD_lst, lenD_lsx, lenD_tup, canC_no, canC_va, canC_ow, eqD_int, neD_int, eqD_str, neD_str, e_opV, e_varM, e_rdR, e_get0, e_getS, e_set0, e_setS, e_bind, e_cst, e_setM, e_setO, canSet_, e_tgN, e_tgT, e_tgsNil, e_tgsCons, e_asgM, e_parM, e_tupM, e_lstM, e_notV, e_negM, e_seqA, e_chainM, e_callF1, e_sm1M, e_enumM, e_getL, e_list_ow, e_list_pa, e_own_ow, e_own_pa, e_getO, e_setW, e_appendM, e_aO, e_callG, e_cells0, e_cellsV, e_cellsO, e_omap, e_slots0, e_slotsV, e_slotsO, e_nodup0, e_nodup1, e_toR_ok, e_toR_ex, e_toF_fr, e_toF_ex, e_backO, e_backV, e_back0, e_tru_int, e_tru_bl, e_stepC, e_range1M, e_augPutM, e_aug1, e_aug2, e_putL, e_revF, listF, tupD, e_wipe0, e_wipeS, e_rest0, e_restS, e_for0, e_nox, e_plain_no, e_plain_va, e_all0, e_allS, Bool.and_self, Bool.true_and, fin_nx, fin_rt, fin_rf, fin_ex, kpD_kpc, e_kpc0, e_kpcS, keepC_pa, keepC_va, keepC_ow, keepC_no, if_true, if_false, Bool.true_eq, Bool.false_eq_true, decide_true, List.length_cons, List.length_nil, and_self, Nat.reduceAdd, Nat.reduceSub, Nat.reduceLeDiff, Nat.reduceEqDiff, Int.reduceNeg, kg, e, hlt, decide_false]
  have more : ∀ (m : Int), fs.length < 2 → 0 < m → m.natAbs ≤ 2 ^ 140 → F_enough_for [.va (.tup (pairsD (fs.map xy))), .va (.lst (pairsD gs))] = .ok (.int m) [.no, .no] → (∀ g ∈ gs, Gen (ps ++ [(m, 0), (0, m)]) g.1 g.2 → Gen ps g.1 g.2) → ∃ S T M : Int, 0 < S ∧ 0 < M ∧ S.natAbs ≤ 2 ^ 5300 ∧ M.natAbs ≤ 2 ^ 5300 ∧ (∀ p ∈ ps, Gen [(S, 0), (T, M)] p.1 p.2) ∧ (∀ g ∈ gs, Gen [(S, 0), (T, M)] g.1 g.2 → Gen ps g.1 g.2) ∧
      F_ring_for [.va (.lst (pairsD ps)), .va (.lst (pairsD gs))] = .ok (.tup [.int S, .int M, .int ((-T).fmod S)]) [.no, .no] := by
    intro m hf2 hm0 hm he hgo
    obtain ⟨fs2, ok2, _, e2⟩ := sums_fn (ps := ps ++ [(m, 0), (0, m)]) (k := 140) (by rw [List.length_append]; show ps.length + 2 ≤ 10; omega) (by omega) (fun q hq => by
      rcases List.mem_append.mp hq with hq | hq
      · have := hs q hq
        have h4 : 2 ^ 44 ≤ 2 ^ 140 := Nat.pow_le_pow_right (by omega) (by omega)
        omega
      · have : q = (m, 0) ∨ q = (0, m) := by simpa using hq
        rcases this with rfl | rfl
        · exact ⟨hm, by simp⟩
        · exact ⟨by simp, hm⟩)
    obtain ⟨l, h, hfs, h0, h1, h2⟩ := rank2 (m := m) ok2 (by omega) (Gen.mem (p := (m, 0)) (by simp)) (Gen.mem (p := (0, m)) (by simp))
    have hx : fs2.map xy = [(at_ 0 l, 0), (at_ 0 h, at_ 1 h)] := by rw [hfs, List.map_cons, List.map_cons, List.map_nil]; show [(at_ 0 l, at_ 1 l), _] = _; rw [h1]
    have sm := ok2.same
    rw [hx] at sm
    refine ⟨at_ 0 l, at_ 0 h, at_ 1 h, h0, h2, (ok2.col l (by rw [hfs]; simp)).1, (ok2.col h (by rw [hfs]; simp)).2, fun p hp => sm.1 p (List.mem_append_left _ hp), fun g hgg hh => hgo g hgg (sm.iff.mpr hh), ?_⟩
    have e3 := ring_end (ps := ps) (gs := gs) (T := 0) (M := 0) (z := 0) (l := l) (h := h) (c3 := .va (.int m)) h0 (fun _ => True)
    rw [← hfs] at e3
    unfold F_ring_for
    rw [bodyF_]
    show (m_ring_for [.va (.lst (pairsD ps)), .va (.lst (pairsD gs)), .no, .no]).fin 2 = _
    rw [← e3]
    have hlt : (((pairsD (fs.map xy)).length : Int) < 2) := by rw [List.length_map, List.length_map]; omega
    have hc : catF (.lst (pairsD ps)) (.lst [.tup [.int m, .int 0], .tup [.int 0, .int m]]) = some (pairsD (ps ++ [(m, 0), (0, m)])) := by
      rw [catF_ok]
      · show _ = some ((ps ++ [(m, 0), (0, m)]).map pr)
        rw [List.map_append]; rfl
      · rw [List.length_map]; simp; omega
    unfold m_ring_for
    simp only [sq_, seq_nx, seq_rt, seq_rf, seq_bk, seq_ct, seq_ex, loop_nx, loop_rt, loop_rf, loop_bk, loop_ct, loop_ex, s_ok_, s_ex_, bind_ok_, bind_ex_, map_ok_, map_ex_, opt_some_, nox_ok_, gd_true_, exprS_, retS_, retFS_, setS_, setOS_, ifS_, forS_, opM_, varR_, asB_, truM_, notM_, andM_, orM_, call1_, lstE_, consM_, aV_, someM_, slM_, raiseM_, andV_, orV_, ifM_, rd_va, rd_ow, rd_pa, addD_int, subD_int, ltG_int, leG_int, gtG_int, geG_int, intD1_int, intD1_bl, absD_int, lenD_lst, lenD_lsx, lenD_tup, canC_no, canC_va, canC_ow, eqD_int, neD_int, eqD_str, neD_str, e_opV, e_varM, e_rdR, e_get0, e_getS, e_set0, e_setS, e_bind, e_cst, e_setM, e_setO, canSet_, e_tgN, e_tgT, e_tgsNil, e_tgsCons, e_asgM, e_parM, e_tupM, e_lstM, e_notV, e_negM, e_seqA, e_chainM, e_callF1, e_sm1M, e_enumM, e_getL, e_list_ow, e_list_pa, e_own_ow, e_own_pa, e_getO, e_setW, e_appendM, e_aO, e_callG, e_cells0, e_cellsV, e_cellsO, e_omap, e_slots0, e_slotsV, e_slotsO, e_nodup0, e_nodup1, e_toR_ok, e_toR_ex, e_toF_fr, e_toF_ex, e_backO, e_backV, e_back0, e_tru_int, e_tru_bl, e_stepC, e_range1M, e_augPutM, e_aug1, e_aug2, e_putL, e_revF, listF, tupD, e_wipe0, e_wipeS, e_rest0, e_restS, e_for0, e_nox, e_plain_no, e_plain_va, e_all0, e_allS, Bool.and_self, Bool.true_and, fin_nx, fin_rt, fin_rf, fin_ex, kpD_kpc, e_kpc0, e_kpcS, keepC_pa, keepC_va, keepC_ow, keepC_no, if_true, if_false, Bool.true_eq, Bool.false_eq_true, decide_true, List.length_cons, List.length_nil, and_self, Nat.reduceAdd, Nat.reduceSub, Nat.reduceLeDiff, Nat.reduceEqDiff, Int.reduceNeg, kg, e, hlt, he, hc, e2]
  have sh := ok.shape
  have one : ∀ (f s : Int), fs.length < 2 → fs.map xy = [(f, s)] → (f ≠ 0 ∨ s ≠ 0) → ∃ S T M : Int, 0 < S ∧ 0 < M ∧ S.natAbs ≤ 2 ^ 5300 ∧ M.natAbs ≤ 2 ^ 5300 ∧ (∀ p ∈ ps, Gen [(S, 0), (T, M)] p.1 p.2) ∧ (∀ g ∈ gs, Gen [(S, 0), (T, M)] g.1 g.2 → Gen ps g.1 g.2) ∧
      F_ring_for [.va (.lst (pairsD ps)), .va (.lst (pairsD gs))] = .ok (.tup [.int S, .int M, .int ((-T).fmod S)]) [.no, .no] := by
    intro f s hf2 hx hn
    have sm := ok.same
    rw [hx] at sm
    obtain ⟨bf, bs⟩ := one_bound hs sm hn
    have p44 : (2 : Nat) ^ 44 < 2 ^ 1000 := Nat.pow_lt_pow_right (by omega) (by omega)
    have p48 : (2 : Nat) ^ 48 < 2 ^ 1000 := Nat.pow_lt_pow_right (by omega) (by omega)
    obtain ⟨d, m, hd, hc, hm, hle, hin, hev⟩ := enough_one (gs := gs) (f := f) (s := s) hgl (by omega) (by omega) hn (fun g hgg => by have := hg g hgg; omega)
    have hdb : d.natAbs ≤ 2 ^ 44 := by
      obtain ⟨_, ⟨k, c2⟩, ⟨n, c3⟩⟩ := hc
      have : ∀ (t k : Int), t ≠ 0 → t = k * d → d.natAbs ≤ t.natAbs := fun t k ht e => by
        have hk : k ≠ 0 := fun z => by rw [z] at e; omega
        have : 1 * d.natAbs ≤ k.natAbs * d.natAbs := Nat.mul_le_mul_right _ (by omega)
        rw [e, Int.natAbs_mul]; omega
      rcases hn with h | h
      · exact Nat.le_trans (this f k h c2) bf
      · exact Nat.le_trans (this s n h c3) bs
    have hmb : m.natAbs ≤ 2 ^ 94 := by
      rcases hin with z | ⟨g, hgg, z⟩
      · rw [z]; exact Nat.zero_le _
      · have b := hg g hgg
        have q1 := fdiv_abs (a := s) (b := d)
        have q2 := fdiv_abs (a := f) (b := d)
        have r1 : (g.1 * s.fdiv d).natAbs ≤ 2 ^ 48 * (2 ^ 44 + 1) := by rw [Int.natAbs_mul]; exact Nat.mul_le_mul b.1 (by omega)
        have r2 : (g.2 * f.fdiv d).natAbs ≤ 2 ^ 48 * (2 ^ 44 + 1) := by rw [Int.natAbs_mul]; exact Nat.mul_le_mul b.2 (by omega)
        rw [z]
        unfold far
        have r3 : (2 : Nat) ^ 48 * (2 ^ 44 + 1) + 2 ^ 48 * (2 ^ 44 + 1) ≤ 2 ^ 94 := by decide
        omega
    have hmany : (d * (1 + m)).natAbs ≤ 2 ^ 140 := by
      rw [Int.natAbs_mul]
      refine Nat.le_trans (Nat.mul_le_mul hdb (show (1 + m).natAbs ≤ 2 ^ 94 + 1 by omega)) (by decide)
    have he := hev (by omega) (by have : (2 : Nat) ^ 94 < 2 ^ 3000 := Nat.pow_lt_pow_right (by omega) (by omega); omega)
    have hpos : 0 < d * (1 + m) := Int.mul_pos hd (by omega)
    refine more (d * (1 + m)) hf2 hpos hmany (by rw [hx]; exact he) fun g hgg gg => none_one sm hc hd hm (hle g hgg) gg
  generalize hfs : fs = fs' at sh
  cases sh with
  | zero =>
    have hx : fs.map xy = [] := by rw [hfs]; rfl
    have sm := ok.same
    rw [hx] at sm
    obtain ⟨m, hm, hle, hin, he⟩ := enough_nil (gs := gs) hgl
    refine more (1 + m) (by rw [hfs]; simp) (by omega) ?_ (by rw [hx]; exact he) fun g hgg gg => none_zero (fun p hp => by have := gen_nil.mp (sm.1 p hp); exact this) hm (hle g hgg) gg
    have : m.natAbs ≤ 2 ^ 48 := by
      rcases hin with z | ⟨g, hgg, z⟩
      · rw [z]; exact Nat.zero_le _
      · have b := hg g hgg
        omega
    have : (2 : Nat) ^ 48 + 1 ≤ 2 ^ 140 := by decide
    omega
  | @low l h0 h1 => exact one (at_ 0 l) (at_ 1 l) (by rw [hfs]; simp) (by rw [hfs]; rfl) (by omega)
  | @high h h0 => exact one (at_ 0 h) (at_ 1 h) (by rw [hfs]; simp) (by rw [hfs]; rfl) (by omega)
  | @both l h h0 h1 h2 _ _ => exact two l h h0 h1 h2 hfs
end K77
end KL
/-! k77: a measure for the law's own clearing. -/
namespace KL
namespace K77
def bl (n : Nat) : Nat := if n = 0 then 0 else Nat.log2 n + 1
theorem bl_mono {m n : Nat} (h : m ≤ n) : bl m ≤ bl n := by
  unfold bl
  by_cases hm : m = 0
  · rw [if_pos hm]; exact Nat.zero_le _
  · rw [if_neg hm, if_neg (by omega)]
    have h1 := Nat.log2_self_le hm
    have h2 : m.log2 ≤ n.log2 := (Nat.le_log2 (by omega)).mpr (by omega)
    omega
theorem bl_half {m n : Nat} (h : 2 * m < n) : bl m < bl n := by
  unfold bl
  rw [if_neg (show n ≠ 0 by omega)]
  by_cases hm : m = 0
  · rw [if_pos hm]; omega
  · rw [if_neg hm]
    have h1 := Nat.log2_self_le hm
    have h2 : m.log2 + 1 ≤ n.log2 := (Nat.le_log2 (by omega)).mpr (by rw [Nat.pow_succ]; omega)
    omega
theorem bl_lt {n k : Nat} (h : n < 2 ^ k) : bl n ≤ k := by
  unfold bl
  by_cases hn : n = 0
  · rw [if_pos hn]; omega
  · rw [if_neg hn]
    have h1 := Nat.log2_self_le hn
    have : 2 ^ n.log2 < 2 ^ k := by omega
    have := (Nat.pow_lt_pow_iff_right (show 1 < 2 by omega)).mp this
    omega
def wt (r : List Int) : Nat := bl (at_ 1 r).natAbs
def pot (rs : List (List Int)) : Nat := (rs.map wt).sum
theorem sum_le {α : Type} {f g : α → Nat} : ∀ {l : List α}, (∀ x ∈ l, f x ≤ g x) → (l.map f).sum ≤ (l.map g).sum
  | [], _ => by simp
  | x :: l, h => by
    have h1 := h x (by simp)
    have h2 := sum_le (f := f) (g := g) (l := l) fun y hy => h y (by simp [hy])
    rw [List.map_cons, List.map_cons, List.sum_cons, List.sum_cons]; omega
theorem sum_lt {α : Type} {f g : α → Nat} : ∀ {l : List α}, (∀ x ∈ l, f x ≤ g x) → (∃ x ∈ l, f x < g x) → (l.map f).sum < (l.map g).sum
  | [], _, ⟨x, hx, _⟩ => by cases hx
  | x :: l, h, ⟨y, hy, hlt⟩ => by
    have h1 := h x (by simp)
    have h2 := sum_le (f := f) (g := g) (l := l) fun y hy => h y (by simp [hy])
    rw [List.map_cons, List.map_cons, List.sum_cons, List.sum_cons]
    rcases List.mem_cons.mp hy with rfl | hy
    · omega
    · have := sum_lt (f := f) (g := g) (l := l) (fun y hy => h y (by simp [hy])) ⟨y, hy, hlt⟩
      omega
theorem sum_but {f : Nat → Nat} {a : Nat} : ∀ {l : List Nat}, l.Nodup → a ∈ l → ((l.filter fun i => decide (i ≠ a)).map f).sum + f a = (l.map f).sum
  | [], _, h => by cases h
  | x :: l, hn, h => by
    rw [List.nodup_cons] at hn
    rw [List.filter_cons]
    by_cases hx : x = a
    · subst hx
      have : l.filter (fun i => decide (i ≠ x)) = l := List.filter_eq_self.mpr fun i hi => decide_eq_true fun e => hn.1 (by rw [← e]; exact hi)
      rw [if_neg (by simp), this, List.map_cons, List.sum_cons]; omega
    · have ha : a ∈ l := (List.mem_cons.mp h).elim (fun e => absurd e.symm hx) id
      have ih := sum_but (f := f) hn.2 ha
      rw [if_pos (by simpa using hx), List.map_cons, List.sum_cons, List.map_cons, List.sum_cons]; omega
theorem pot_rows (rs : List (List Int)) : pot rs = ((List.range rs.length).map fun i => wt (gr rs i)).sum := by
  unfold pot
  conv => lhs; rw [← rs_range rs]
  rw [List.map_map]; rfl
theorem pot_turn {l n : Nat} {rs : List (List Int)} (hr : ∀ r ∈ rs, r.length = n) (hl : l < rs.length) (h0 : at_ 1 (gr rs l) ≠ 0) (hmin : ∀ r ∈ nz 1 rs, (at_ 1 (gr rs l)).natAbs ≤ (at_ 1 r).natAbs)
    (hsg : ∀ r ∈ rs, (0 < at_ 1 (gr rs l) → 0 ≤ at_ 1 r) ∧ (at_ 1 (gr rs l) < 0 → at_ 1 r ≤ 0)) (h2 : 1 < (nz 1 rs).length) : pot (gr rs l :: others 1 rs l) < pot rs := by
  have hh : ∀ i < rs.length, at_ 1 (gr rs i) ≠ 0 → 2 * ((at_ 1 (gr rs i)).fmod (at_ 1 (gr rs l))).natAbs < (at_ 1 (gr rs i)).natAbs := fun i hi hn => by
    have s := hsg _ (gr_mem hi)
    have m := hmin (gr rs i) (List.mem_filter.mpr ⟨gr_mem hi, by simpa using hn⟩)
    exact half_fmod (by omega) m
  have e1 : pot (gr rs l :: others 1 rs l) = ((((List.range rs.length).filter fun i => decide (i ≠ l)).map fun i => bl ((at_ 1 (gr rs i)).fmod (at_ 1 (gr rs l))).natAbs).sum) + wt (gr rs l) := by
    unfold pot others
    rw [List.map_cons, List.sum_cons, List.map_map, Nat.add_comm]
    congr 2
    apply List.map_congr_left
    intro i hi
    have hi := List.mem_range.mp (List.mem_filter.mp hi).1
    show bl _ = bl _
    rw [fmod_col hr hl hi]
  have e2 := sum_but (f := fun i => wt (gr rs i)) (a := l) (l := List.range rs.length) List.nodup_range (List.mem_range.mpr hl)
  rw [e1, pot_rows, ← e2]
  have hle : ∀ i ∈ (List.range rs.length).filter fun i => decide (i ≠ l), bl ((at_ 1 (gr rs i)).fmod (at_ 1 (gr rs l))).natAbs ≤ wt (gr rs i) := fun i hi => by
    have hi := List.mem_range.mp (List.mem_filter.mp hi).1
    unfold wt
    by_cases hn : at_ 1 (gr rs i) = 0
    · rw [hn, Int.zero_fmod]; exact Nat.le_refl _
    · exact Nat.le_of_lt (bl_half (hh i hi hn))
  have hex : ∃ i ∈ (List.range rs.length).filter fun i => decide (i ≠ l), bl ((at_ 1 (gr rs i)).fmod (at_ 1 (gr rs l))).natAbs < wt (gr rs i) := by
    rw [nz_range] at h2
    apply Classical.byContradiction
    intro hc
    have hall : ∀ i ∈ List.range rs.length, at_ 1 (gr rs i) ≠ 0 → i = l := fun i hi hn => Classical.byContradiction fun hil => hc ⟨i, List.mem_filter.mpr ⟨hi, decide_eq_true hil⟩, bl_half (hh i (List.mem_range.mp hi) hn)⟩
    have hsub : ((List.range rs.length).filter fun i => at_ 1 (gr rs i) != 0).length ≤ ((List.range rs.length).filter fun i => decide (i = l)).length := cnt_le fun i hi h => decide_eq_true (hall i hi (by simpa using h))
    have hone : ((List.range rs.length).filter fun i => decide (i = l)).length ≤ 1 := by
      have hnd : (List.range rs.length).Nodup := List.nodup_range
      generalize List.range rs.length = L at hnd
      induction L with
      | nil => simp
      | cons x L ih =>
        rw [List.nodup_cons] at hnd
        rw [List.filter_cons]
        by_cases hx : x = l
        · subst hx
          have : L.filter (fun i => decide (i = x)) = [] := List.filter_eq_nil_iff.mpr fun i hi => by
            simp only [decide_eq_true_eq]
            intro e; exact hnd.1 (by rw [← e]; exact hi)
          rw [if_pos (by simp), this]; simp
        · rw [if_neg (by simpa using hx)]; exact ih hnd.2
    omega
  have := sum_lt hle hex
  omega
end K77
end KL
set_option exponentiation.threshold 100000
/-! k77: a turn of the law's own clearing. -/
namespace KL
namespace K77
open PySem L2
theorem least_ok {rs : List (List Int)} {p : Nat} (hz : nz p rs ≠ []) : ∃ l, l < rs.length ∧ at_ p (gr rs l) ≠ 0 ∧ (∀ r ∈ nz p rs, (at_ p (gr rs l)).natAbs ≤ (at_ p r).natAbs) ∧
    minD (.lst (((List.range rs.length).filter fun i => at_ p (gr rs i) != 0).map fun i => pr (((at_ p (gr rs i)).natAbs : Nat), (i : Nat)))) = some (pr (((at_ p (gr rs l)).natAbs : Int), ((l : Nat) : Int))) := by
  obtain ⟨m, hm, hmin, hle⟩ := minD_pr (l := ((List.range rs.length).filter fun i => at_ p (gr rs i) != 0).map fun i => (((at_ p (gr rs i)).natAbs : Int), ((i : Nat) : Int))) (by
    intro z
    rw [List.map_eq_nil_iff] at z
    apply hz
    unfold nz
    rw [List.filter_eq_nil_iff] at z ⊢
    intro r hrr
    obtain ⟨j, hj, e⟩ := mem_gr hrr
    have := z j (List.mem_range.mpr hj)
    rw [e] at this
    exact this)
  obtain ⟨l, hlm, rfl⟩ := List.mem_map.mp hm
  obtain ⟨hlr, hl0⟩ := List.mem_filter.mp hlm
  refine ⟨l, List.mem_range.mp hlr, by simpa using hl0, fun r hrn => ?_, by rw [List.map_map] at hmin; exact hmin⟩
  obtain ⟨hr1, hr2⟩ := List.mem_filter.mp hrn
  obtain ⟨j, hj, e⟩ := mem_gr hr1
  have := hle (((at_ p (gr rs j)).natAbs : Int), ((j : Nat) : Int)) (List.mem_map.mpr ⟨j, List.mem_filter.mpr ⟨List.mem_range.mpr hj, by rw [e]; exact hr2⟩, rfl⟩)
  rw [e] at this
  exact Int.ofNat_le.mp this
theorem len2 {r : List Int} (h : r.length = 2) : r = [at_ 0 r, at_ 1 r] := by
  match r, h with
  | [a, b], _ => rfl
theorem vless2 {r s : List Int} {q : Int} (hr : r.length = 2) (hs : s.length = 2) : D.lst [.int (at_ 0 r - q * at_ 0 s), .int (at_ 1 r - q * at_ 1 s)] = row (vless r s q) := by
  match r, s, hr, hs with
  | [a, b], [c, d], _, _ =>
    show D.lst [.int (a - q * c), .int (b - q * d)] = D.lst [.int (a - c * q), .int (b - d * q)]
    rw [Int.mul_comm q c, Int.mul_comm q d]
/-- the walk that makes the others less -/
theorem is_walk {rs : List (List Int)} {l B : Nat} {c0 c1 c2 c9 c10 c11 c12 c13 : Cell} (hr : ∀ r ∈ rs, r.length = 2) (hl : l < rs.length) (h0 : at_ 1 (gr rs l) ≠ 0) (hB : B ≤ 7900) (hs : ∀ r ∈ rs, Sz B r) (hn : rs.length < 1000) : ∀ (is : List Nat) (acc : List (List Int)) (c6 c7 c8 : Cell), (∀ i ∈ is, i < rs.length) → acc.length + is.length < 2000 → canC c6 = true → canC c7 = true → canC c8 = true →
    plainC (some c6) = true → plainC (some c7) = true →
    ∃ d6 d7 d8, canC d6 = true ∧ canC d7 = true ∧ canC d8 = true ∧ plainC (some d6) = true ∧ plainC (some d7) = true ∧ forM (tgT 2 (tgsCons (tgN 6) (tgsCons (tgN 7) tgsNil))) law_in_sums_b1 (is.map fun i => .tup [.int (i : Nat), row (gr rs i)]) [c0, c1, c2, .va (.int (l : Nat)), .va (row (gr rs l)), .ow (rowsD acc), c6, c7, c8, c9, c10, c11, c12, c13] =
      .nx [c0, c1, c2, .va (.int (l : Nat)), .va (row (gr rs l)), .ow (rowsD (acc ++ (is.filter fun i => decide (i ≠ l)).map fun i => vless (gr rs i) (gr rs l) ((at_ 1 (gr rs i)).fdiv (at_ 1 (gr rs l))))), d6, d7, d8, c9, c10, c11, c12, c13]
  | [], acc, c6, c7, c8, _, _, k6, k7, k8, p6, p7 => ⟨c6, c7, c8, k6, k7, k8, p6, p7, by simp only [List.filter_nil, List.map_nil, List.append_nil, e_for0]⟩
  | i :: is, acc, c6, c7, c8, hi, hlen, k6, k7, k8, p6, p7 => by
    have hii := hi i (by simp)
    rw [List.length_cons] at hlen
    have li := hr _ (gr_mem hii)
    have ll := hr _ (gr_mem hl)
    have a1 : ixD (row (gr rs i)) (.int 1) = some (.int (at_ 1 (gr rs i))) := ix_row (p := 1) (by omega)
    have a0 : ixD (row (gr rs i)) (.int 0) = some (.int (at_ 0 (gr rs i))) := ix_row (p := 0) (by omega)
    have b1 : ixD (row (gr rs l)) (.int 1) = some (.int (at_ 1 (gr rs l))) := ix_row (p := 1) (by omega)
    have b0 : ixD (row (gr rs l)) (.int 0) = some (.int (at_ 0 (gr rs l))) := ix_row (p := 0) (by omega)
    have hq : ((at_ 1 (gr rs i)).fdiv (at_ 1 (gr rs l))).natAbs < 2 ^ (B + 1) := by
      have h1 := fdiv_abs (a := at_ 1 (gr rs i)) (b := at_ 1 (gr rs l))
      have h2 := (hs _ (gr_mem hii)).at' (p := 1)
      rw [Nat.pow_succ]; omega
    have hd : divG (.int (at_ 1 (gr rs i))) (.int (at_ 1 (gr rs l))) = some (.int ((at_ 1 (gr rs i)).fdiv (at_ 1 (gr rs l)))) := divG_int h0 (Nat.lt_of_lt_of_le (hs _ (gr_mem hl)).at' (Nat.pow_le_pow_right (by omega) (by omega)))
    have m0 := mulG_int hq ((hs _ (gr_mem hl)).at' (p := 0)) (by omega)
    have m1 := mulG_int hq ((hs _ (gr_mem hl)).at' (p := 1)) (by omega)
    have v2 := vless2 (q := (at_ 1 (gr rs i)).fdiv (at_ 1 (gr rs l))) li ll
    rw [List.map_cons, e_forS]
    have hacc : ((rowsD acc).length < 16777216) := by rw [List.length_map]; omega
    by_cases hil : i = l
    · have t : decide ((i : Int) = (l : Int)) = true := decide_eq_true (by omega)
      obtain ⟨d6, d7, d8, z1, z2, z3, z4, z5, e⟩ := is_walk hr hl h0 hB hs hn is acc (.va (.int (i : Nat))) (.va (row (gr rs i))) (.va (.int ((at_ 1 (gr rs i)).fdiv (at_ 1 (gr rs l))))) (fun j hj => hi j (by simp [hj])) (by omega) rfl rfl rfl rfl rfl
      refine ⟨d6, d7, d8, z1, z2, z3, z4, z5, ?_⟩
      unfold law_in_sums_b1
      unfold law_in_sums_b1 at e
      simp only [sq_, seq_nx, seq_rt, seq_rf, seq_bk, seq_ct, seq_ex, loop_nx, loop_rt, loop_rf, loop_bk, loop_ct, loop_ex, s_ok_, s_ex_, bind_ok_, bind_ex_, map_ok_, map_ex_, opt_some_, nox_ok_, gd_true_, exprS_, retS_, retFS_, setS_, setOS_, ifS_, forS_, opM_, varR_, asB_, truM_, notM_, andM_, orM_, call1_, lstE_, consM_, aV_, someM_, slM_, raiseM_, andV_, orV_, ifM_, rd_va, rd_ow, rd_pa, addD_int, subD_int, ltG_int, leG_int, gtG_int, geG_int, intD1_int, intD1_bl, absD_int, lenD_lst, lenD_lsx, lenD_tup, canC_no, canC_va, canC_ow, eqD_int, neD_int, eqD_str, neD_str, e_opV, e_varM, e_rdR, e_get0, e_getS, e_set0, e_setS, e_bind, e_cst, e_setM, e_setO, canSet_, e_tgN, e_tgT, e_tgsNil, e_tgsCons, e_asgM, e_parM, e_tupM, e_lstM, e_notV, e_negM, e_seqA, e_chainM, e_callF1, e_sm1M, e_enumM, e_getL, e_list_ow, e_list_pa, e_own_ow, e_own_pa, e_getO, e_setW, e_appendM, e_aO, e_callG, e_cells0, e_cellsV, e_cellsO, e_omap, e_slots0, e_slotsV, e_slotsO, e_nodup0, e_nodup1, e_toR_ok, e_toR_ex, e_toF_fr, e_toF_ex, e_backO, e_backV, e_back0, e_tru_int, e_tru_bl, e_stepC, e_revF, listF, tupD, e_wipe0, e_wipeS, e_rest0, e_restS, e_for0, e_nox, e_plain_no, e_plain_va, e_all0, e_allS, Bool.and_self, Bool.true_and, fin_nx, fin_rt, fin_rf, fin_ex, kpD_kpc, e_kpc0, e_kpcS, keepC_pa, keepC_va, keepC_ow, keepC_no, if_true, if_false, Bool.true_eq, Bool.false_eq_true, decide_true, List.length_cons, List.length_nil, and_self, Nat.reduceAdd, Nat.reduceSub, Nat.reduceLeDiff, Nat.reduceEqDiff, Int.reduceNeg, k6, k7, k8, a1, b1, hd, t, Bool.not_true]
      rw [e, List.filter_cons, if_neg (by simpa using hil)]
    · have t : decide ((i : Int) = (l : Int)) = false := decide_eq_false (by omega)
      obtain ⟨d6, d7, d8, z1, z2, z3, z4, z5, e⟩ := is_walk hr hl h0 hB hs hn is (acc ++ [vless (gr rs i) (gr rs l) ((at_ 1 (gr rs i)).fdiv (at_ 1 (gr rs l)))]) (.va (.int (i : Nat))) (.va (row (gr rs i))) (.va (.int ((at_ 1 (gr rs i)).fdiv (at_ 1 (gr rs l))))) (fun j hj => hi j (by simp [hj])) (by rw [List.length_append]; simp; omega) rfl rfl rfl rfl rfl
      refine ⟨d6, d7, d8, z1, z2, z3, z4, z5, ?_⟩
      have ea : rowsD (acc ++ [vless (gr rs i) (gr rs l) ((at_ 1 (gr rs i)).fdiv (at_ 1 (gr rs l)))]) = rowsD acc ++ [row (vless (gr rs i) (gr rs l) ((at_ 1 (gr rs i)).fdiv (at_ 1 (gr rs l))))] := by unfold rowsD; rw [List.map_append]; rfl
      rw [ea, List.append_assoc] at e
      unfold law_in_sums_b1
      unfold law_in_sums_b1 at e
      simp only [sq_, seq_nx, seq_rt, seq_rf, seq_bk, seq_ct, seq_ex, loop_nx, loop_rt, loop_rf, loop_bk, loop_ct, loop_ex, s_ok_, s_ex_, bind_ok_, bind_ex_, map_ok_, map_ex_, opt_some_, nox_ok_, gd_true_, exprS_, retS_, retFS_, setS_, setOS_, ifS_, forS_, opM_, varR_, asB_, truM_, notM_, andM_, orM_, call1_, lstE_, consM_, aV_, someM_, slM_, raiseM_, andV_, orV_, ifM_, rd_va, rd_ow, rd_pa, addD_int, subD_int, ltG_int, leG_int, gtG_int, geG_int, intD1_int, intD1_bl, absD_int, lenD_lst, lenD_lsx, lenD_tup, canC_no, canC_va, canC_ow, eqD_int, neD_int, eqD_str, neD_str, e_opV, e_varM, e_rdR, e_get0, e_getS, e_set0, e_setS, e_bind, e_cst, e_setM, e_setO, canSet_, e_tgN, e_tgT, e_tgsNil, e_tgsCons, e_asgM, e_parM, e_tupM, e_lstM, e_notV, e_negM, e_seqA, e_chainM, e_callF1, e_sm1M, e_enumM, e_getL, e_list_ow, e_list_pa, e_own_ow, e_own_pa, e_getO, e_setW, e_appendM, e_aO, e_callG, e_cells0, e_cellsV, e_cellsO, e_omap, e_slots0, e_slotsV, e_slotsO, e_nodup0, e_nodup1, e_toR_ok, e_toR_ex, e_toF_fr, e_toF_ex, e_backO, e_backV, e_back0, e_tru_int, e_tru_bl, e_stepC, e_revF, listF, tupD, e_wipe0, e_wipeS, e_rest0, e_restS, e_for0, e_nox, e_plain_no, e_plain_va, e_all0, e_allS, Bool.and_self, Bool.true_and, fin_nx, fin_rt, fin_rf, fin_ex, kpD_kpc, e_kpc0, e_kpcS, keepC_pa, keepC_va, keepC_ow, keepC_no, if_true, if_false, Bool.true_eq, Bool.false_eq_true, decide_true, List.length_cons, List.length_nil, and_self, Nat.reduceAdd, Nat.reduceSub, Nat.reduceLeDiff, Nat.reduceEqDiff, Int.reduceNeg, k6, k7, k8, a1, b1, a0, b0, hd, t, m0, m1, Bool.not_false, v2, hacc]
      rw [e, List.filter_cons, if_pos (by simpa using hil), List.map_cons]
      rfl
end K77
end KL
set_option exponentiation.threshold 100000
/-! k77: the law's own clearing ends. -/
namespace KL
namespace K77
open PySem L2
abbrev rowsC (rs : List (List Int)) (c2 : Cell) : Prop := c2 = .ow (rowsD rs) ∨ c2 = .va (.lst (rowsD rs))
theorem is_cond {rs : List (List Int)} {c0 c1 c2 c3 c4 c5 c6 c7 c8 c9 c10 c11 c12 c13 : Cell} (h2 : rowsC rs c2) (hl : rs.length < 1000) (hp : ∀ r ∈ rs, r.length = 2) (p7 : plainC (some c7) = true) :
    law_in_sums_c2 [c0, c1, c2, c3, c4, c5, c6, c7, c8, c9, c10, c11, c12, c13] = .ok (decide (1 < (nz 1 rs).length)) [c0, c1, .va (.lst (rowsD rs)), c3, c4, c5, c6, c7, c8, c9, c10, c11, c12, c13] := by
  have hc : ((1 : Int) < ((nz 1 rs).map row).length) = (1 < (nz 1 rs).length) := by rw [List.length_map]; exact propext (by omega)
  unfold law_in_sums_c2
  simp only [sq_, seq_nx, seq_rt, seq_rf, seq_bk, seq_ct, seq_ex, loop_nx, loop_rt, loop_rf, loop_bk, loop_ct, loop_ex, s_ok_, s_ex_, bind_ok_, bind_ex_, map_ok_, map_ex_, opt_some_, nox_ok_, gd_true_, exprS_, retS_, retFS_, setS_, setOS_, ifS_, forS_, opM_, varR_, asB_, truM_, notM_, andM_, orM_, call1_, lstE_, consM_, aV_, someM_, slM_, raiseM_, andV_, orV_, ifM_, rd_va, rd_ow, rd_pa, addD_int, subD_int, ltG_int, leG_int, gtG_int, geG_int, intD1_int, intD1_bl, absD_int, lenD_lst, lenD_lsx, lenD_tup, canC_no, canC_va, canC_ow, eqD_int, neD_int, eqD_str, neD_str, e_opV, e_varM, e_rdR, e_get0, e_getS, e_set0, e_setS, e_bind, e_cst, e_setM, e_setO, canSet_, e_tgN, e_tgT, e_tgsNil, e_tgsCons, e_asgM, e_parM, e_tupM, e_lstM, e_notV, e_negM, e_seqA, e_chainM, e_callF1, e_sm1M, e_enumM, e_getL, e_list_ow, e_list_pa, e_own_ow, e_own_pa, e_getO, e_setW, e_appendM, e_aO, e_callG, e_cells0, e_cellsV, e_cellsO, e_omap, e_slots0, e_slotsV, e_slotsO, e_nodup0, e_nodup1, e_toR_ok, e_toR_ex, e_toF_fr, e_toF_ex, e_backO, e_backV, e_back0, e_tru_int, e_tru_bl, e_stepC, e_revF, listF, tupD, e_wipe0, e_wipeS, e_rest0, e_restS, e_for0, e_nox, e_plain_no, e_plain_va, e_all0, e_allS, Bool.and_self, Bool.true_and, fin_nx, fin_rt, fin_rf, fin_ex, kpD_kpc, e_kpc0, e_kpcS, keepC_pa, keepC_va, keepC_ow, keepC_no, if_true, if_false, Bool.true_eq, Bool.false_eq_true, decide_true, List.length_cons, List.length_nil, and_self, Nat.reduceAdd, Nat.reduceSub, Nat.reduceLeDiff, Nat.reduceEqDiff, Int.reduceNeg]
  rw [lcM_f row (fun r => at_ 1 r != 0) row (xs := rs) (Δ := [c0, c1, .va (.lst (rowsD rs)), c3, c4, c5, c6, c7, c8, c9, c10, c11, c12, c13]) (hi := by rcases h2 with rfl | rfl <;> simp only [sq_, seq_nx, seq_rt, seq_rf, seq_bk, seq_ct, seq_ex, loop_nx, loop_rt, loop_rf, loop_bk, loop_ct, loop_ex, s_ok_, s_ex_, bind_ok_, bind_ex_, map_ok_, map_ex_, opt_some_, nox_ok_, gd_true_, exprS_, retS_, retFS_, setS_, setOS_, ifS_, forS_, opM_, varR_, asB_, truM_, notM_, andM_, orM_, call1_, lstE_, consM_, aV_, someM_, slM_, raiseM_, andV_, orV_, ifM_, rd_va, rd_ow, rd_pa, addD_int, subD_int, ltG_int, leG_int, gtG_int, geG_int, intD1_int, intD1_bl, absD_int, lenD_lst, lenD_lsx, lenD_tup, canC_no, canC_va, canC_ow, eqD_int, neD_int, eqD_str, neD_str, e_opV, e_varM, e_rdR, e_get0, e_getS, e_set0, e_setS, e_bind, e_cst, e_setM, e_setO, canSet_, e_tgN, e_tgT, e_tgsNil, e_tgsCons, e_asgM, e_parM, e_tupM, e_lstM, e_notV, e_negM, e_seqA, e_chainM, e_callF1, e_sm1M, e_enumM, e_getL, e_list_ow, e_list_pa, e_own_ow, e_own_pa, e_getO, e_setW, e_appendM, e_aO, e_callG, e_cells0, e_cellsV, e_cellsO, e_omap, e_slots0, e_slotsV, e_slotsO, e_nodup0, e_nodup1, e_toR_ok, e_toR_ex, e_toF_fr, e_toF_ex, e_backO, e_backV, e_back0, e_tru_int, e_tru_bl, e_stepC, e_revF, listF, tupD, e_wipe0, e_wipeS, e_rest0, e_restS, e_for0, e_nox, e_plain_no, e_plain_va, e_all0, e_allS, Bool.and_self, Bool.true_and, fin_nx, fin_rt, fin_rf, fin_ex, kpD_kpc, e_kpc0, e_kpcS, keepC_pa, keepC_va, keepC_ow, keepC_no, if_true, if_false, Bool.true_eq, Bool.false_eq_true, decide_true, List.length_cons, List.length_nil, and_self, Nat.reduceAdd, Nat.reduceSub, Nat.reduceLeDiff, Nat.reduceEqDiff, Int.reduceNeg]) (hl := by omega) (hp := by simp only [sq_, seq_nx, seq_rt, seq_rf, seq_bk, seq_ct, seq_ex, loop_nx, loop_rt, loop_rf, loop_bk, loop_ct, loop_ex, s_ok_, s_ex_, bind_ok_, bind_ex_, map_ok_, map_ex_, opt_some_, nox_ok_, gd_true_, exprS_, retS_, retFS_, setS_, setOS_, ifS_, forS_, opM_, varR_, asB_, truM_, notM_, andM_, orM_, call1_, lstE_, consM_, aV_, someM_, slM_, raiseM_, andV_, orV_, ifM_, rd_va, rd_ow, rd_pa, addD_int, subD_int, ltG_int, leG_int, gtG_int, geG_int, intD1_int, intD1_bl, absD_int, lenD_lst, lenD_lsx, lenD_tup, canC_no, canC_va, canC_ow, eqD_int, neD_int, eqD_str, neD_str, e_opV, e_varM, e_rdR, e_get0, e_getS, e_set0, e_setS, e_bind, e_cst, e_setM, e_setO, canSet_, e_tgN, e_tgT, e_tgsNil, e_tgsCons, e_asgM, e_parM, e_tupM, e_lstM, e_notV, e_negM, e_seqA, e_chainM, e_callF1, e_sm1M, e_enumM, e_getL, e_list_ow, e_list_pa, e_own_ow, e_own_pa, e_getO, e_setW, e_appendM, e_aO, e_callG, e_cells0, e_cellsV, e_cellsO, e_omap, e_slots0, e_slotsV, e_slotsO, e_nodup0, e_nodup1, e_toR_ok, e_toR_ex, e_toF_fr, e_toF_ex, e_backO, e_backV, e_back0, e_tru_int, e_tru_bl, e_stepC, e_revF, listF, tupD, e_wipe0, e_wipeS, e_rest0, e_restS, e_for0, e_nox, e_plain_no, e_plain_va, e_all0, e_allS, Bool.and_self, Bool.true_and, fin_nx, fin_rt, fin_rf, fin_ex, kpD_kpc, e_kpc0, e_kpcS, keepC_pa, keepC_va, keepC_ow, keepC_no, if_true, if_false, Bool.true_eq, Bool.false_eq_true, decide_true, List.length_cons, List.length_nil, and_self, Nat.reduceAdd, Nat.reduceSub, Nat.reduceLeDiff, Nat.reduceEqDiff, Int.reduceNeg, p7]) (h := fun r hr => ?_)]
  · have : (rs.filter fun r => at_ 1 r != 0) = nz 1 rs := rfl
    rw [this]
    simp only [sq_, seq_nx, seq_rt, seq_rf, seq_bk, seq_ct, seq_ex, loop_nx, loop_rt, loop_rf, loop_bk, loop_ct, loop_ex, s_ok_, s_ex_, bind_ok_, bind_ex_, map_ok_, map_ex_, opt_some_, nox_ok_, gd_true_, exprS_, retS_, retFS_, setS_, setOS_, ifS_, forS_, opM_, varR_, asB_, truM_, notM_, andM_, orM_, call1_, lstE_, consM_, aV_, someM_, slM_, raiseM_, andV_, orV_, ifM_, rd_va, rd_ow, rd_pa, addD_int, subD_int, ltG_int, leG_int, gtG_int, geG_int, intD1_int, intD1_bl, absD_int, lenD_lst, lenD_lsx, lenD_tup, canC_no, canC_va, canC_ow, eqD_int, neD_int, eqD_str, neD_str, e_opV, e_varM, e_rdR, e_get0, e_getS, e_set0, e_setS, e_bind, e_cst, e_setM, e_setO, canSet_, e_tgN, e_tgT, e_tgsNil, e_tgsCons, e_asgM, e_parM, e_tupM, e_lstM, e_notV, e_negM, e_seqA, e_chainM, e_callF1, e_sm1M, e_enumM, e_getL, e_list_ow, e_list_pa, e_own_ow, e_own_pa, e_getO, e_setW, e_appendM, e_aO, e_callG, e_cells0, e_cellsV, e_cellsO, e_omap, e_slots0, e_slotsV, e_slotsO, e_nodup0, e_nodup1, e_toR_ok, e_toR_ex, e_toF_fr, e_toF_ex, e_backO, e_backV, e_back0, e_tru_int, e_tru_bl, e_stepC, e_revF, listF, tupD, e_wipe0, e_wipeS, e_rest0, e_restS, e_for0, e_nox, e_plain_no, e_plain_va, e_all0, e_allS, Bool.and_self, Bool.true_and, fin_nx, fin_rt, fin_rf, fin_ex, kpD_kpc, e_kpc0, e_kpcS, keepC_pa, keepC_va, keepC_ow, keepC_no, if_true, if_false, Bool.true_eq, Bool.false_eq_true, decide_true, List.length_cons, List.length_nil, and_self, Nat.reduceAdd, Nat.reduceSub, Nat.reduceLeDiff, Nat.reduceEqDiff, Int.reduceNeg]
    congr 1
    exact decide_eq_decide.mpr (by rw [hc])
  · have a1 : ixD (row r) (.int 1) = some (.int (at_ 1 r)) := ix_row (p := 1) (by rw [hp r hr]; omega)
    by_cases h : at_ 1 r = 0
    · simp only [sq_, seq_nx, seq_rt, seq_rf, seq_bk, seq_ct, seq_ex, loop_nx, loop_rt, loop_rf, loop_bk, loop_ct, loop_ex, s_ok_, s_ex_, bind_ok_, bind_ex_, map_ok_, map_ex_, opt_some_, nox_ok_, gd_true_, exprS_, retS_, retFS_, setS_, setOS_, ifS_, forS_, opM_, varR_, asB_, truM_, notM_, andM_, orM_, call1_, lstE_, consM_, aV_, someM_, slM_, raiseM_, andV_, orV_, ifM_, rd_va, rd_ow, rd_pa, addD_int, subD_int, ltG_int, leG_int, gtG_int, geG_int, intD1_int, intD1_bl, absD_int, lenD_lst, lenD_lsx, lenD_tup, canC_no, canC_va, canC_ow, eqD_int, neD_int, eqD_str, neD_str, e_opV, e_varM, e_rdR, e_get0, e_getS, e_set0, e_setS, e_bind, e_cst, e_setM, e_setO, canSet_, e_tgN, e_tgT, e_tgsNil, e_tgsCons, e_asgM, e_parM, e_tupM, e_lstM, e_notV, e_negM, e_seqA, e_chainM, e_callF1, e_sm1M, e_enumM, e_getL, e_list_ow, e_list_pa, e_own_ow, e_own_pa, e_getO, e_setW, e_appendM, e_aO, e_callG, e_cells0, e_cellsV, e_cellsO, e_omap, e_slots0, e_slotsV, e_slotsO, e_nodup0, e_nodup1, e_toR_ok, e_toR_ex, e_toF_fr, e_toF_ex, e_backO, e_backV, e_back0, e_tru_int, e_tru_bl, e_stepC, e_revF, listF, tupD, e_wipe0, e_wipeS, e_rest0, e_restS, e_for0, e_nox, e_plain_no, e_plain_va, e_all0, e_allS, Bool.and_self, Bool.true_and, fin_nx, fin_rt, fin_rf, fin_ex, kpD_kpc, e_kpc0, e_kpcS, keepC_pa, keepC_va, keepC_ow, keepC_no, if_true, if_false, Bool.true_eq, Bool.false_eq_true, decide_true, List.length_cons, List.length_nil, and_self, Nat.reduceAdd, Nat.reduceSub, Nat.reduceLeDiff, Nat.reduceEqDiff, Int.reduceNeg, a1, h, Bool.not_true, bne_self_eq_false]
    · have e : (at_ 1 r != 0) = true := by simpa using h
      simp only [sq_, seq_nx, seq_rt, seq_rf, seq_bk, seq_ct, seq_ex, loop_nx, loop_rt, loop_rf, loop_bk, loop_ct, loop_ex, s_ok_, s_ex_, bind_ok_, bind_ex_, map_ok_, map_ex_, opt_some_, nox_ok_, gd_true_, exprS_, retS_, retFS_, setS_, setOS_, ifS_, forS_, opM_, varR_, asB_, truM_, notM_, andM_, orM_, call1_, lstE_, consM_, aV_, someM_, slM_, raiseM_, andV_, orV_, ifM_, rd_va, rd_ow, rd_pa, addD_int, subD_int, ltG_int, leG_int, gtG_int, geG_int, intD1_int, intD1_bl, absD_int, lenD_lst, lenD_lsx, lenD_tup, canC_no, canC_va, canC_ow, eqD_int, neD_int, eqD_str, neD_str, e_opV, e_varM, e_rdR, e_get0, e_getS, e_set0, e_setS, e_bind, e_cst, e_setM, e_setO, canSet_, e_tgN, e_tgT, e_tgsNil, e_tgsCons, e_asgM, e_parM, e_tupM, e_lstM, e_notV, e_negM, e_seqA, e_chainM, e_callF1, e_sm1M, e_enumM, e_getL, e_list_ow, e_list_pa, e_own_ow, e_own_pa, e_getO, e_setW, e_appendM, e_aO, e_callG, e_cells0, e_cellsV, e_cellsO, e_omap, e_slots0, e_slotsV, e_slotsO, e_nodup0, e_nodup1, e_toR_ok, e_toR_ex, e_toF_fr, e_toF_ex, e_backO, e_backV, e_back0, e_tru_int, e_tru_bl, e_stepC, e_revF, listF, tupD, e_wipe0, e_wipeS, e_rest0, e_restS, e_for0, e_nox, e_plain_no, e_plain_va, e_all0, e_allS, Bool.and_self, Bool.true_and, fin_nx, fin_rt, fin_rf, fin_ex, kpD_kpc, e_kpc0, e_kpcS, keepC_pa, keepC_va, keepC_ow, keepC_no, if_true, if_false, Bool.true_eq, Bool.false_eq_true, decide_true, List.length_cons, List.length_nil, and_self, Nat.reduceAdd, Nat.reduceSub, Nat.reduceLeDiff, Nat.reduceEqDiff, Int.reduceNeg, a1, h, e, decide_false, Bool.not_false]
theorem is_turn {rs : List (List Int)} {B : Nat} {c0 c1 c2 c3 c4 c5 c6 c7 c8 c9 c10 c11 c12 c13 : Cell} (h2 : rowsC rs c2) (hl : rs.length < 1000) (hr : ∀ r ∈ rs, r.length = 2) (k : canC c3 = true ∧ canC c4 = true ∧ canC c5 = true ∧ canC c6 = true ∧ canC c7 = true ∧ canC c8 = true) (p6 : plainC (some c6) = true) (p7 : plainC (some c7) = true)
    (hB : B ≤ 7900) (hs : ∀ r ∈ rs, Sz B r) (hz : nz 1 rs ≠ []) :
    ∃ l, l < rs.length ∧ at_ 1 (gr rs l) ≠ 0 ∧ (∀ r ∈ nz 1 rs, (at_ 1 (gr rs l)).natAbs ≤ (at_ 1 r).natAbs) ∧ ∃ d3 d4 d5 d6 d7 d8, (canC d3 = true ∧ canC d4 = true ∧ canC d5 = true ∧ canC d6 = true ∧ canC d7 = true ∧ canC d8 = true) ∧ plainC (some d6) = true ∧ plainC (some d7) = true ∧
      law_in_sums_b3 [c0, c1, c2, c3, c4, c5, c6, c7, c8, c9, c10, c11, c12, c13] = .nx [c0, c1, .ow (rowsD (gr rs l :: others 1 rs l)), d3, d4, d5, d6, d7, d8, c9, c10, c11, c12, c13] := by
  obtain ⟨l, hll, hl0, hmin, hbest⟩ := least_ok hz
  obtain ⟨k3, k4, k5, k6, k7, k8⟩ := k
  obtain ⟨d6, d7, d8, z6, z7, z8, q6, q7, hw⟩ := is_walk (c0 := c0) (c1 := c1) (c2 := .va (.lst (rowsD rs))) (c9 := c9) (c10 := c10) (c11 := c11) (c12 := c12) (c13 := c13) hr hll hl0 hB hs hl (List.range rs.length) [] c6 c7 c8 (fun i hi => List.mem_range.mp hi) (by rw [List.length_range]; simp; omega) k6 k7 k8 p6 p7
  refine ⟨l, hll, hl0, hmin, .va (.int (l : Nat)), .va (row (gr rs l)), .ow (rowsD (others 1 rs l)), d6, d7, d8, ⟨rfl, rfl, rfl, z6, z7, z8⟩, q6, q7, ?_⟩
  have hw : forM (tgT 2 (tgsCons (tgN 6) (tgsCons (tgN 7) tgsNil))) law_in_sums_b1 ((List.range rs.length).map fun i => .tup [.int (i : Nat), row (gr rs i)]) [c0, c1, .va (.lst (rowsD rs)), .va (.int (l : Nat)), .va (row (gr rs l)), .ow [], c6, c7, c8, c9, c10, c11, c12, c13] =
      .nx [c0, c1, .va (.lst (rowsD rs)), .va (.int (l : Nat)), .va (row (gr rs l)), .ow (rowsD (others 1 rs l)), d6, d7, d8, c9, c10, c11, c12, c13] := hw
  have en : walkD (.lst (rowsD rs)) = some (rowsD rs) := rfl
  have ixr : ixD (.lst (rowsD rs)) (.int (l : Nat)) = some (row (gr rs l)) := ix_rows hll
  have ixp : ixD (pr (((at_ 1 (gr rs l)).natAbs : Int), ((l : Nat) : Int))) (.int 1) = some (.int (l : Nat)) := rfl
  have hcat : catF (.lst [row (gr rs l)]) (.lst (rowsD (others 1 rs l))) = some (rowsD (gr rs l :: others 1 rs l)) := by
    rw [catF_ok]
    · rfl
    · have := turn_count (p := 1) hll
      rw [List.length_append] at this
      rw [List.length_map]
      simp at this ⊢; omega
  unfold law_in_sums_b3
  simp only [sq_, seq_nx, seq_rt, seq_rf, seq_bk, seq_ct, seq_ex, loop_nx, loop_rt, loop_rf, loop_bk, loop_ct, loop_ex, s_ok_, s_ex_, bind_ok_, bind_ex_, map_ok_, map_ex_, opt_some_, nox_ok_, gd_true_, exprS_, retS_, retFS_, setS_, setOS_, ifS_, forS_, opM_, varR_, asB_, truM_, notM_, andM_, orM_, call1_, lstE_, consM_, aV_, someM_, slM_, raiseM_, andV_, orV_, ifM_, rd_va, rd_ow, rd_pa, addD_int, subD_int, ltG_int, leG_int, gtG_int, geG_int, intD1_int, intD1_bl, absD_int, lenD_lst, lenD_lsx, lenD_tup, canC_no, canC_va, canC_ow, eqD_int, neD_int, eqD_str, neD_str, e_opV, e_varM, e_rdR, e_get0, e_getS, e_set0, e_setS, e_bind, e_cst, e_setM, e_setO, canSet_, e_tgN, e_tgT, e_tgsNil, e_tgsCons, e_asgM, e_parM, e_tupM, e_lstM, e_notV, e_negM, e_seqA, e_chainM, e_callF1, e_sm1M, e_enumM, e_getL, e_list_ow, e_list_pa, e_own_ow, e_own_pa, e_getO, e_setW, e_appendM, e_aO, e_callG, e_cells0, e_cellsV, e_cellsO, e_omap, e_slots0, e_slotsV, e_slotsO, e_nodup0, e_nodup1, e_toR_ok, e_toR_ex, e_toF_fr, e_toF_ex, e_backO, e_backV, e_back0, e_tru_int, e_tru_bl, e_stepC, e_revF, listF, tupD, e_wipe0, e_wipeS, e_rest0, e_restS, e_for0, e_nox, e_plain_no, e_plain_va, e_all0, e_allS, Bool.and_self, Bool.true_and, fin_nx, fin_rt, fin_rf, fin_ex, kpD_kpc, e_kpc0, e_kpcS, keepC_pa, keepC_va, keepC_ow, keepC_no, if_true, if_false, Bool.true_eq, Bool.false_eq_true, decide_true, List.length_cons, List.length_nil, and_self, Nat.reduceAdd, Nat.reduceSub, Nat.reduceLeDiff, Nat.reduceEqDiff, Int.reduceNeg]
  rw [lcM_f (fun i : Nat => .tup [.int (i : Nat), row (gr rs i)]) (fun i => at_ 1 (gr rs i) != 0) (fun i => pr (((at_ 1 (gr rs i)).natAbs : Nat), (i : Nat))) (xs := List.range rs.length) (Δ := [c0, c1, .va (.lst (rowsD rs)), c3, c4, c5, c6, c7, c8, c9, c10, c11, c12, c13]) (hi := by rcases h2 with rfl | rfl <;> simp only [sq_, seq_nx, seq_rt, seq_rf, seq_bk, seq_ct, seq_ex, loop_nx, loop_rt, loop_rf, loop_bk, loop_ct, loop_ex, s_ok_, s_ex_, bind_ok_, bind_ex_, map_ok_, map_ex_, opt_some_, nox_ok_, gd_true_, exprS_, retS_, retFS_, setS_, setOS_, ifS_, forS_, opM_, varR_, asB_, truM_, notM_, andM_, orM_, call1_, lstE_, consM_, aV_, someM_, slM_, raiseM_, andV_, orV_, ifM_, rd_va, rd_ow, rd_pa, addD_int, subD_int, ltG_int, leG_int, gtG_int, geG_int, intD1_int, intD1_bl, absD_int, lenD_lst, lenD_lsx, lenD_tup, canC_no, canC_va, canC_ow, eqD_int, neD_int, eqD_str, neD_str, e_opV, e_varM, e_rdR, e_get0, e_getS, e_set0, e_setS, e_bind, e_cst, e_setM, e_setO, canSet_, e_tgN, e_tgT, e_tgsNil, e_tgsCons, e_asgM, e_parM, e_tupM, e_lstM, e_notV, e_negM, e_seqA, e_chainM, e_callF1, e_sm1M, e_enumM, e_getL, e_list_ow, e_list_pa, e_own_ow, e_own_pa, e_getO, e_setW, e_appendM, e_aO, e_callG, e_cells0, e_cellsV, e_cellsO, e_omap, e_slots0, e_slotsV, e_slotsO, e_nodup0, e_nodup1, e_toR_ok, e_toR_ex, e_toF_fr, e_toF_ex, e_backO, e_backV, e_back0, e_tru_int, e_tru_bl, e_stepC, e_revF, listF, tupD, e_wipe0, e_wipeS, e_rest0, e_restS, e_for0, e_nox, e_plain_no, e_plain_va, e_all0, e_allS, Bool.and_self, Bool.true_and, fin_nx, fin_rt, fin_rf, fin_ex, kpD_kpc, e_kpc0, e_kpcS, keepC_pa, keepC_va, keepC_ow, keepC_no, if_true, if_false, Bool.true_eq, Bool.false_eq_true, decide_true, List.length_cons, List.length_nil, and_self, Nat.reduceAdd, Nat.reduceSub, Nat.reduceLeDiff, Nat.reduceEqDiff, Int.reduceNeg, en, enumL_rows]) (hl := by rw [List.length_range]; omega) (hp := by simp only [sq_, seq_nx, seq_rt, seq_rf, seq_bk, seq_ct, seq_ex, loop_nx, loop_rt, loop_rf, loop_bk, loop_ct, loop_ex, s_ok_, s_ex_, bind_ok_, bind_ex_, map_ok_, map_ex_, opt_some_, nox_ok_, gd_true_, exprS_, retS_, retFS_, setS_, setOS_, ifS_, forS_, opM_, varR_, asB_, truM_, notM_, andM_, orM_, call1_, lstE_, consM_, aV_, someM_, slM_, raiseM_, andV_, orV_, ifM_, rd_va, rd_ow, rd_pa, addD_int, subD_int, ltG_int, leG_int, gtG_int, geG_int, intD1_int, intD1_bl, absD_int, lenD_lst, lenD_lsx, lenD_tup, canC_no, canC_va, canC_ow, eqD_int, neD_int, eqD_str, neD_str, e_opV, e_varM, e_rdR, e_get0, e_getS, e_set0, e_setS, e_bind, e_cst, e_setM, e_setO, canSet_, e_tgN, e_tgT, e_tgsNil, e_tgsCons, e_asgM, e_parM, e_tupM, e_lstM, e_notV, e_negM, e_seqA, e_chainM, e_callF1, e_sm1M, e_enumM, e_getL, e_list_ow, e_list_pa, e_own_ow, e_own_pa, e_getO, e_setW, e_appendM, e_aO, e_callG, e_cells0, e_cellsV, e_cellsO, e_omap, e_slots0, e_slotsV, e_slotsO, e_nodup0, e_nodup1, e_toR_ok, e_toR_ex, e_toF_fr, e_toF_ex, e_backO, e_backV, e_back0, e_tru_int, e_tru_bl, e_stepC, e_revF, listF, tupD, e_wipe0, e_wipeS, e_rest0, e_restS, e_for0, e_nox, e_plain_no, e_plain_va, e_all0, e_allS, Bool.and_self, Bool.true_and, fin_nx, fin_rt, fin_rf, fin_ex, kpD_kpc, e_kpc0, e_kpcS, keepC_pa, keepC_va, keepC_ow, keepC_no, if_true, if_false, Bool.true_eq, Bool.false_eq_true, decide_true, List.length_cons, List.length_nil, and_self, Nat.reduceAdd, Nat.reduceSub, Nat.reduceLeDiff, Nat.reduceEqDiff, Int.reduceNeg, p6, p7]) (h := fun i hi => ?_)]
  · simp only [sq_, seq_nx, seq_rt, seq_rf, seq_bk, seq_ct, seq_ex, loop_nx, loop_rt, loop_rf, loop_bk, loop_ct, loop_ex, s_ok_, s_ex_, bind_ok_, bind_ex_, map_ok_, map_ex_, opt_some_, nox_ok_, gd_true_, exprS_, retS_, retFS_, setS_, setOS_, ifS_, forS_, opM_, varR_, asB_, truM_, notM_, andM_, orM_, call1_, lstE_, consM_, aV_, someM_, slM_, raiseM_, andV_, orV_, ifM_, rd_va, rd_ow, rd_pa, addD_int, subD_int, ltG_int, leG_int, gtG_int, geG_int, intD1_int, intD1_bl, absD_int, lenD_lst, lenD_lsx, lenD_tup, canC_no, canC_va, canC_ow, eqD_int, neD_int, eqD_str, neD_str, e_opV, e_varM, e_rdR, e_get0, e_getS, e_set0, e_setS, e_bind, e_cst, e_setM, e_setO, canSet_, e_tgN, e_tgT, e_tgsNil, e_tgsCons, e_asgM, e_parM, e_tupM, e_lstM, e_notV, e_negM, e_seqA, e_chainM, e_callF1, e_sm1M, e_enumM, e_getL, e_list_ow, e_list_pa, e_own_ow, e_own_pa, e_getO, e_setW, e_appendM, e_aO, e_callG, e_cells0, e_cellsV, e_cellsO, e_omap, e_slots0, e_slotsV, e_slotsO, e_nodup0, e_nodup1, e_toR_ok, e_toR_ex, e_toF_fr, e_toF_ex, e_backO, e_backV, e_back0, e_tru_int, e_tru_bl, e_stepC, e_revF, listF, tupD, e_wipe0, e_wipeS, e_rest0, e_restS, e_for0, e_nox, e_plain_no, e_plain_va, e_all0, e_allS, Bool.and_self, Bool.true_and, fin_nx, fin_rt, fin_rf, fin_ex, kpD_kpc, e_kpc0, e_kpcS, keepC_pa, keepC_va, keepC_ow, keepC_no, if_true, if_false, Bool.true_eq, Bool.false_eq_true, decide_true, List.length_cons, List.length_nil, and_self, Nat.reduceAdd, Nat.reduceSub, Nat.reduceLeDiff, Nat.reduceEqDiff, Int.reduceNeg, hbest, ixp, k3, k4, k5, ixr, en, enumL_rows, hw, hcat]
  · have hi := List.mem_range.mp hi
    have a1 : ixD (row (gr rs i)) (.int 1) = some (.int (at_ 1 (gr rs i))) := ix_row (p := 1) (by rw [hr _ (gr_mem hi)]; omega)
    by_cases h : at_ 1 (gr rs i) = 0
    · simp only [sq_, seq_nx, seq_rt, seq_rf, seq_bk, seq_ct, seq_ex, loop_nx, loop_rt, loop_rf, loop_bk, loop_ct, loop_ex, s_ok_, s_ex_, bind_ok_, bind_ex_, map_ok_, map_ex_, opt_some_, nox_ok_, gd_true_, exprS_, retS_, retFS_, setS_, setOS_, ifS_, forS_, opM_, varR_, asB_, truM_, notM_, andM_, orM_, call1_, lstE_, consM_, aV_, someM_, slM_, raiseM_, andV_, orV_, ifM_, rd_va, rd_ow, rd_pa, addD_int, subD_int, ltG_int, leG_int, gtG_int, geG_int, intD1_int, intD1_bl, absD_int, lenD_lst, lenD_lsx, lenD_tup, canC_no, canC_va, canC_ow, eqD_int, neD_int, eqD_str, neD_str, e_opV, e_varM, e_rdR, e_get0, e_getS, e_set0, e_setS, e_bind, e_cst, e_setM, e_setO, canSet_, e_tgN, e_tgT, e_tgsNil, e_tgsCons, e_asgM, e_parM, e_tupM, e_lstM, e_notV, e_negM, e_seqA, e_chainM, e_callF1, e_sm1M, e_enumM, e_getL, e_list_ow, e_list_pa, e_own_ow, e_own_pa, e_getO, e_setW, e_appendM, e_aO, e_callG, e_cells0, e_cellsV, e_cellsO, e_omap, e_slots0, e_slotsV, e_slotsO, e_nodup0, e_nodup1, e_toR_ok, e_toR_ex, e_toF_fr, e_toF_ex, e_backO, e_backV, e_back0, e_tru_int, e_tru_bl, e_stepC, e_revF, listF, tupD, e_wipe0, e_wipeS, e_rest0, e_restS, e_for0, e_nox, e_plain_no, e_plain_va, e_all0, e_allS, Bool.and_self, Bool.true_and, fin_nx, fin_rt, fin_rf, fin_ex, kpD_kpc, e_kpc0, e_kpcS, keepC_pa, keepC_va, keepC_ow, keepC_no, if_true, if_false, Bool.true_eq, Bool.false_eq_true, decide_true, List.length_cons, List.length_nil, and_self, Nat.reduceAdd, Nat.reduceSub, Nat.reduceLeDiff, Nat.reduceEqDiff, Int.reduceNeg, a1, h, Bool.not_true, bne_self_eq_false, k6, k7]
    · have e : (at_ 1 (gr rs i) != 0) = true := by simpa using h
      simp only [sq_, seq_nx, seq_rt, seq_rf, seq_bk, seq_ct, seq_ex, loop_nx, loop_rt, loop_rf, loop_bk, loop_ct, loop_ex, s_ok_, s_ex_, bind_ok_, bind_ex_, map_ok_, map_ex_, opt_some_, nox_ok_, gd_true_, exprS_, retS_, retFS_, setS_, setOS_, ifS_, forS_, opM_, varR_, asB_, truM_, notM_, andM_, orM_, call1_, lstE_, consM_, aV_, someM_, slM_, raiseM_, andV_, orV_, ifM_, rd_va, rd_ow, rd_pa, addD_int, subD_int, ltG_int, leG_int, gtG_int, geG_int, intD1_int, intD1_bl, absD_int, lenD_lst, lenD_lsx, lenD_tup, canC_no, canC_va, canC_ow, eqD_int, neD_int, eqD_str, neD_str, e_opV, e_varM, e_rdR, e_get0, e_getS, e_set0, e_setS, e_bind, e_cst, e_setM, e_setO, canSet_, e_tgN, e_tgT, e_tgsNil, e_tgsCons, e_asgM, e_parM, e_tupM, e_lstM, e_notV, e_negM, e_seqA, e_chainM, e_callF1, e_sm1M, e_enumM, e_getL, e_list_ow, e_list_pa, e_own_ow, e_own_pa, e_getO, e_setW, e_appendM, e_aO, e_callG, e_cells0, e_cellsV, e_cellsO, e_omap, e_slots0, e_slotsV, e_slotsO, e_nodup0, e_nodup1, e_toR_ok, e_toR_ex, e_toF_fr, e_toF_ex, e_backO, e_backV, e_back0, e_tru_int, e_tru_bl, e_stepC, e_revF, listF, tupD, e_wipe0, e_wipeS, e_rest0, e_restS, e_for0, e_nox, e_plain_no, e_plain_va, e_all0, e_allS, Bool.and_self, Bool.true_and, fin_nx, fin_rt, fin_rf, fin_ex, kpD_kpc, e_kpc0, e_kpcS, keepC_pa, keepC_va, keepC_ow, keepC_no, if_true, if_false, Bool.true_eq, Bool.false_eq_true, decide_true, List.length_cons, List.length_nil, and_self, Nat.reduceAdd, Nat.reduceSub, Nat.reduceLeDiff, Nat.reduceEqDiff, Int.reduceNeg, a1, h, e, decide_false, Bool.not_false, k6, k7, abs_if]
theorem Ok.swap {p n N C : Nat} {P : List Int → Prop} {S0 : List (Int × Int)} {os : List (List Int)} {low : List Int} (h : Ok p n N C P S0 (os ++ [low])) : Ok p n N C P S0 (low :: os) := by
  have hm : ∀ r, r ∈ low :: os ↔ r ∈ os ++ [low] := fun r => by simp [or_comm]
  refine ⟨fun r hr => h.len r ((hm r).mp hr), by have := h.cnt; simp at this ⊢; omega, ?_, fun r hr => h.pr r ((hm r).mp hr), h.same.trans ?_⟩
  · obtain ⟨A, R, a, b, c, d⟩ := h.sm
    exact ⟨A, R, fun r hr => a r ((hm r).mp hr), fun r hr => b r ((hm r).mp hr), c, d⟩
  · refine ⟨fun p hp => ?_, fun p hp => ?_⟩
    · obtain ⟨r, hr, rfl⟩ := List.mem_map.mp hp
      exact Gen.mem (p := xy r) (List.mem_map.mpr ⟨r, (hm r).mpr hr, rfl⟩)
    · obtain ⟨r, hr, rfl⟩ := List.mem_map.mp hp
      exact Gen.mem (p := xy r) (List.mem_map.mpr ⟨r, (hm r).mp hr, rfl⟩)
/-- all signs alike -/
def Sgn (rs : List (List Int)) : Prop := (∀ r ∈ rs, 0 ≤ at_ 1 r) ∨ ∀ r ∈ rs, at_ 1 r ≤ 0
theorem sgn_turn {l n : Nat} {rs : List (List Int)} (hl : l < rs.length) (hr : ∀ r ∈ rs, r.length = n) (h0 : at_ 1 (gr rs l) ≠ 0) : Sgn (gr rs l :: others 1 rs l) := by
  have af := aft_turn hl hr h0
  by_cases h : 0 < at_ 1 (gr rs l)
  · left
    intro r hr
    rcases List.mem_cons.mp hr with rfl | hr
    · omega
    · exact (af.sg r hr).1 h
  · right
    intro r hr
    rcases List.mem_cons.mp hr with rfl | hr
    · omega
    · exact (af.sg r hr).2 (by omega)
theorem is_run {N : Nat} {S0 : List (Int × Int)} {c0 c1 c9 c10 c11 c12 c13 : Cell} (hN : N < 1000) : ∀ (k C : Nat) (rs : List (List Int)) (c2 c3 c4 c5 c6 c7 c8 : Cell), pot rs ≤ k → Sgn rs → Ok 1 2 N C (fun _ => True) S0 rs → C * 4 ^ k < 2 ^ 7900 → rowsC rs c2 →
    (canC c3 = true ∧ canC c4 = true ∧ canC c5 = true ∧ canC c6 = true ∧ canC c7 = true ∧ canC c8 = true) → plainC (some c6) = true → plainC (some c7) = true → ∀ f, k + 1 ≤ f →
    ∃ rs' d3 d4 d5 d6 d7 d8, whileM law_in_sums_c2 law_in_sums_b3 f [c0, c1, c2, c3, c4, c5, c6, c7, c8, c9, c10, c11, c12, c13] = .nx [c0, c1, .va (.lst (rowsD rs')), d3, d4, d5, d6, d7, d8, c9, c10, c11, c12, c13] ∧
      (canC d3 = true ∧ canC d4 = true ∧ canC d5 = true ∧ canC d6 = true ∧ canC d7 = true ∧ canC d8 = true) ∧ plainC (some d6) = true ∧ plainC (some d7) = true ∧ Ok 1 2 N (C * 4 ^ k) (fun _ => True) S0 rs' ∧ (nz 1 rs').length ≤ 1
  | k, C, rs, c2, c3, c4, c5, c6, c7, c8, hk, hsg, ok, hC, h2, kk, p6, p7, f, hf => by
    obtain ⟨f, rfl⟩ : ∃ g, f = g + 1 := ⟨f - 1, by omega⟩
    have hlen : rs.length < 1000 := Nat.lt_of_le_of_lt ok.cnt hN
    have hC4 : C ≤ C * 4 ^ k := Nat.le_mul_of_pos_right C (Nat.pow_pos (by omega))
    rw [e_while, is_cond h2 hlen ok.len p7]
    by_cases hnz : 1 < (nz 1 rs).length
    case neg =>
      simp only [sq_, seq_nx, seq_rt, seq_rf, seq_bk, seq_ct, seq_ex, loop_nx, loop_rt, loop_rf, loop_bk, loop_ct, loop_ex, s_ok_, s_ex_, bind_ok_, bind_ex_, map_ok_, map_ex_, opt_some_, nox_ok_, gd_true_, exprS_, retS_, retFS_, setS_, setOS_, ifS_, forS_, opM_, varR_, asB_, truM_, notM_, andM_, orM_, call1_, lstE_, consM_, aV_, someM_, slM_, raiseM_, andV_, orV_, ifM_, rd_va, rd_ow, rd_pa, addD_int, subD_int, ltG_int, leG_int, gtG_int, geG_int, intD1_int, intD1_bl, absD_int, lenD_lst, lenD_lsx, lenD_tup, canC_no, canC_va, canC_ow, eqD_int, neD_int, eqD_str, neD_str, e_opV, e_varM, e_rdR, e_get0, e_getS, e_set0, e_setS, e_bind, e_cst, e_setM, e_setO, canSet_, e_tgN, e_tgT, e_tgsNil, e_tgsCons, e_asgM, e_parM, e_tupM, e_lstM, e_notV, e_negM, e_seqA, e_chainM, e_callF1, e_sm1M, e_enumM, e_getL, e_list_ow, e_list_pa, e_own_ow, e_own_pa, e_getO, e_setW, e_appendM, e_aO, e_callG, e_cells0, e_cellsV, e_cellsO, e_omap, e_slots0, e_slotsV, e_slotsO, e_nodup0, e_nodup1, e_toR_ok, e_toR_ex, e_toF_fr, e_toF_ex, e_backO, e_backV, e_back0, e_tru_int, e_tru_bl, e_stepC, e_revF, listF, tupD, e_wipe0, e_wipeS, e_rest0, e_restS, e_for0, e_nox, e_plain_no, e_plain_va, e_all0, e_allS, Bool.and_self, Bool.true_and, fin_nx, fin_rt, fin_rf, fin_ex, kpD_kpc, e_kpc0, e_kpcS, keepC_pa, keepC_va, keepC_ow, keepC_no, if_true, if_false, Bool.true_eq, Bool.false_eq_true, decide_true, List.length_cons, List.length_nil, and_self, Nat.reduceAdd, Nat.reduceSub, Nat.reduceLeDiff, Nat.reduceEqDiff, Int.reduceNeg, hnz, decide_false]
      exact ⟨rs, c3, c4, c5, c6, c7, c8, rfl, kk, p6, p7, ok.mono hC4, by omega⟩
    have hsz : ∀ r ∈ rs, Sz 7900 r := fun r hr a ha => by
      have := ok.sm.entry hr ha
      omega
    obtain ⟨l, hl, hl0, hmin, d3, d4, d5, d6, d7, d8, kd, q6, q7, ht⟩ := is_turn (c0 := c0) (c1 := c1) (c9 := c9) (c10 := c10) (c11 := c11) (c12 := c12) (c13 := c13) (.inr rfl) hlen ok.len kk p6 p7 (Nat.le_refl _) hsz (fun z => by rw [z] at hnz; simp at hnz)
    simp only [sq_, seq_nx, seq_rt, seq_rf, seq_bk, seq_ct, seq_ex, loop_nx, loop_rt, loop_rf, loop_bk, loop_ct, loop_ex, s_ok_, s_ex_, bind_ok_, bind_ex_, map_ok_, map_ex_, opt_some_, nox_ok_, gd_true_, exprS_, retS_, retFS_, setS_, setOS_, ifS_, forS_, opM_, varR_, asB_, truM_, notM_, andM_, orM_, call1_, lstE_, consM_, aV_, someM_, slM_, raiseM_, andV_, orV_, ifM_, rd_va, rd_ow, rd_pa, addD_int, subD_int, ltG_int, leG_int, gtG_int, geG_int, intD1_int, intD1_bl, absD_int, lenD_lst, lenD_lsx, lenD_tup, canC_no, canC_va, canC_ow, eqD_int, neD_int, eqD_str, neD_str, e_opV, e_varM, e_rdR, e_get0, e_getS, e_set0, e_setS, e_bind, e_cst, e_setM, e_setO, canSet_, e_tgN, e_tgT, e_tgsNil, e_tgsCons, e_asgM, e_parM, e_tupM, e_lstM, e_notV, e_negM, e_seqA, e_chainM, e_callF1, e_sm1M, e_enumM, e_getL, e_list_ow, e_list_pa, e_own_ow, e_own_pa, e_getO, e_setW, e_appendM, e_aO, e_callG, e_cells0, e_cellsV, e_cellsO, e_omap, e_slots0, e_slotsV, e_slotsO, e_nodup0, e_nodup1, e_toR_ok, e_toR_ex, e_toF_fr, e_toF_ex, e_backO, e_backV, e_back0, e_tru_int, e_tru_bl, e_stepC, e_revF, listF, tupD, e_wipe0, e_wipeS, e_rest0, e_restS, e_for0, e_nox, e_plain_no, e_plain_va, e_all0, e_allS, Bool.and_self, Bool.true_and, fin_nx, fin_rt, fin_rf, fin_ex, kpD_kpc, e_kpc0, e_kpcS, keepC_pa, keepC_va, keepC_ow, keepC_no, if_true, if_false, Bool.true_eq, Bool.false_eq_true, decide_true, List.length_cons, List.length_nil, and_self, Nat.reduceAdd, Nat.reduceSub, Nat.reduceLeDiff, Nat.reduceEqDiff, Int.reduceNeg, hnz, ht]
    have hp := pot_turn ok.len hl hl0 hmin (fun r hr => by
      have hlm := gr_mem hl
      rcases hsg with h | h
      · have := h r hr; have := h _ hlm; omega
      · have := h r hr; have := h _ hlm; omega) hnz
    have ok1 := (ok.turn (fun _ _ _ _ _ _ _ => trivial) hl hl0).swap
    cases k with
    | zero => omega
    | succ k =>
      have e4 : 4 * C * 4 ^ k = C * 4 ^ (k + 1) := by rw [Nat.pow_succ, Nat.mul_comm 4 C, Nat.mul_assoc, Nat.mul_comm 4]
      obtain ⟨rs', g3, g4, g5, g6, g7, g8, a1, a2, a3, a4, a5, a6⟩ := is_run hN k (4 * C) _ _ _ _ _ _ _ _ (by omega) (sgn_turn hl ok.len hl0) ok1 (by rw [e4]; exact hC) (.inl rfl) kd q6 q7 f (by omega)
      rw [e4] at a5
      exact ⟨rs', g3, g4, g5, g6, g7, g8, a1, a2, a3, a4, a5, a6⟩
end K77
end KL
set_option exponentiation.threshold 100000
/-! k77: _law_in_sums behind its clearing. -/
namespace KL
namespace K77
open PySem L2
/-! ### the common step -/
section
variable {c0 c1 c2 c3 c4 c5 c6 c7 c8 c9 c10 c13 : Cell}
theorem g_turn {a b : Int} {f : Nat} (h : 0 < b) : whileM law_in_sums_c5 law_in_sums_b6 (f + 1) [c0, c1, c2, c3, c4, c5, c6, c7, c8, c9, c10, .va (.int a), .va (.int b), c13] = whileM law_in_sums_c5 law_in_sums_b6 f [c0, c1, c2, c3, c4, c5, c6, c7, c8, c9, c10, .va (.int b), .va (.int (a.fmod b)), c13] := by
  have hm := modG_int (i := a) (show b ≠ 0 by omega)
  rw [e_while]
  unfold law_in_sums_c5 law_in_sums_b6
  simp only [sq_, seq_nx, seq_rt, seq_rf, seq_bk, seq_ct, seq_ex, loop_nx, loop_rt, loop_rf, loop_bk, loop_ct, loop_ex, s_ok_, s_ex_, bind_ok_, bind_ex_, map_ok_, map_ex_, opt_some_, nox_ok_, gd_true_, exprS_, retS_, retFS_, setS_, setOS_, ifS_, forS_, opM_, varR_, asB_, truM_, notM_, andM_, orM_, call1_, lstE_, consM_, aV_, someM_, slM_, raiseM_, andV_, orV_, ifM_, rd_va, rd_ow, rd_pa, addD_int, subD_int, ltG_int, leG_int, gtG_int, geG_int, intD1_int, intD1_bl, absD_int, lenD_lst, lenD_lsx, lenD_tup, canC_no, canC_va, canC_ow, eqD_int, neD_int, eqD_str, neD_str, e_opV, e_varM, e_rdR, e_get0, e_getS, e_set0, e_setS, e_bind, e_cst, e_setM, e_setO, canSet_, e_tgN, e_tgT, e_tgsNil, e_tgsCons, e_asgM, e_parM, e_tupM, e_lstM, e_notV, e_negM, e_seqA, e_chainM, e_callF1, e_sm1M, e_enumM, e_getL, e_list_ow, e_list_pa, e_own_ow, e_own_pa, e_getO, e_setW, e_appendM, e_aO, e_callG, e_cells0, e_cellsV, e_cellsO, e_omap, e_slots0, e_slotsV, e_slotsO, e_nodup0, e_nodup1, e_toR_ok, e_toR_ex, e_toF_fr, e_toF_ex, e_backO, e_backV, e_back0, e_tru_int, e_tru_bl, e_stepC, e_revF, listF, tupD, e_wipe0, e_wipeS, e_rest0, e_restS, e_for0, e_nox, e_plain_no, e_plain_va, e_all0, e_allS, Bool.and_self, Bool.true_and, fin_nx, fin_rt, fin_rf, fin_ex, kpD_kpc, e_kpc0, e_kpcS, keepC_pa, keepC_va, keepC_ow, keepC_no, if_true, if_false, Bool.true_eq, Bool.false_eq_true, decide_true, List.length_cons, List.length_nil, and_self, Nat.reduceAdd, Nat.reduceSub, Nat.reduceLeDiff, Nat.reduceEqDiff, Int.reduceNeg, h, hm]
theorem g_end {a : Int} {f : Nat} : whileM law_in_sums_c5 law_in_sums_b6 (f + 1) [c0, c1, c2, c3, c4, c5, c6, c7, c8, c9, c10, .va (.int a), .va (.int 0), c13] = .nx [c0, c1, c2, c3, c4, c5, c6, c7, c8, c9, c10, .va (.int a), .va (.int 0), c13] := by
  rw [e_while]
  unfold law_in_sums_c5 law_in_sums_b6
  simp only [sq_, seq_nx, seq_rt, seq_rf, seq_bk, seq_ct, seq_ex, loop_nx, loop_rt, loop_rf, loop_bk, loop_ct, loop_ex, s_ok_, s_ex_, bind_ok_, bind_ex_, map_ok_, map_ex_, opt_some_, nox_ok_, gd_true_, exprS_, retS_, retFS_, setS_, setOS_, ifS_, forS_, opM_, varR_, asB_, truM_, notM_, andM_, orM_, call1_, lstE_, consM_, aV_, someM_, slM_, raiseM_, andV_, orV_, ifM_, rd_va, rd_ow, rd_pa, addD_int, subD_int, ltG_int, leG_int, gtG_int, geG_int, intD1_int, intD1_bl, absD_int, lenD_lst, lenD_lsx, lenD_tup, canC_no, canC_va, canC_ow, eqD_int, neD_int, eqD_str, neD_str, e_opV, e_varM, e_rdR, e_get0, e_getS, e_set0, e_setS, e_bind, e_cst, e_setM, e_setO, canSet_, e_tgN, e_tgT, e_tgsNil, e_tgsCons, e_asgM, e_parM, e_tupM, e_lstM, e_notV, e_negM, e_seqA, e_chainM, e_callF1, e_sm1M, e_enumM, e_getL, e_list_ow, e_list_pa, e_own_ow, e_own_pa, e_getO, e_setW, e_appendM, e_aO, e_callG, e_cells0, e_cellsV, e_cellsO, e_omap, e_slots0, e_slotsV, e_slotsO, e_nodup0, e_nodup1, e_toR_ok, e_toR_ex, e_toF_fr, e_toF_ex, e_backO, e_backV, e_back0, e_tru_int, e_tru_bl, e_stepC, e_revF, listF, tupD, e_wipe0, e_wipeS, e_rest0, e_restS, e_for0, e_nox, e_plain_no, e_plain_va, e_all0, e_allS, Bool.and_self, Bool.true_and, fin_nx, fin_rt, fin_rf, fin_ex, kpD_kpc, e_kpc0, e_kpcS, keepC_pa, keepC_va, keepC_ow, keepC_no, if_true, if_false, Bool.true_eq, Bool.false_eq_true, decide_true, List.length_cons, List.length_nil, and_self, Nat.reduceAdd, Nat.reduceSub, Nat.reduceLeDiff, Nat.reduceEqDiff, Int.reduceNeg, Int.lt_irrefl, decide_false]
theorem g_run : ∀ (k : Nat) (a b : Int) (f : Nat), 0 ≤ a → 0 ≤ b → b.natAbs < 2 ^ k → 2 * k + 2 ≤ f → ∃ d, 0 ≤ d ∧ Com d a b ∧ whileM law_in_sums_c5 law_in_sums_b6 f [c0, c1, c2, c3, c4, c5, c6, c7, c8, c9, c10, .va (.int a), .va (.int b), c13] = .nx [c0, c1, c2, c3, c4, c5, c6, c7, c8, c9, c10, .va (.int d), .va (.int 0), c13]
  | k, a, b, f, ha, hb0, hb, hf => by
    obtain ⟨f, rfl⟩ : ∃ g, f = g + 2 := ⟨f - 2, by omega⟩
    by_cases h0 : b = 0
    · subst h0; exact ⟨a, ha, Com.zero a, g_end⟩
    rw [g_turn (by omega)]
    by_cases h1 : a.fmod b = 0
    · rw [h1]
      refine ⟨b, hb0, Com.back ?_, g_end⟩
      rw [h1]; exact Com.zero b
    have s := fmod_sign (a := a) (b := b)
    have l := fmod_lt (a := a) h0
    have s2 := fmod_sign (a := b) (b := a.fmod b)
    rw [g_turn (by omega)]
    have h2 : 2 * (b.fmod (a.fmod b)).natAbs < b.natAbs := half_fmod (by omega) (by omega)
    cases k with
    | zero => simp at hb; omega
    | succ k =>
      rw [Nat.pow_succ] at hb
      obtain ⟨d, h3, h4, h5⟩ := g_run k (a.fmod b) (b.fmod (a.fmod b)) f (by omega) (by omega) (by omega) (by omega)
      exact ⟨d, h3, h4.back.back, h5⟩
end
/-- g is the common step of g0 and of the rows that have nothing at place 1 -/
structure Stp (rs : List (List Int)) (g0 g : Int) : Prop where
  nn : 0 ≤ g
  d0 : ∃ k, g0 = k * g
  dr : ∀ r ∈ rs, at_ 1 r = 0 → ∃ k, at_ 0 r = k * g
  gen : ∀ S : List (Int × Int), Gen S g0 0 → (∀ r ∈ rs, at_ 1 r = 0 → Gen S (at_ 0 r) 0) → Gen S g 0
theorem g_loop {c0 c1 c2 c3 c4 c5 c6 c8 c9 : Cell} : ∀ (rs : List (List Int)) (g0 : Int) (c7 c11 c12 c13 : Cell), 0 ≤ g0 → (∀ r ∈ rs, r.length = 2 ∧ (at_ 0 r).natAbs < 2 ^ 7900) → canC c7 = true → canC c11 = true → canC c12 = true →
    ∃ g d7 d11 d12, Stp rs g0 g ∧ forM (tgN 7) law_in_sums_b7 (rs.map row) [c0, c1, c2, c3, c4, c5, c6, c7, c8, c9, .va (.int g0), c11, c12, c13] = .nx [c0, c1, c2, c3, c4, c5, c6, d7, c8, c9, .va (.int g), d11, d12, c13]
  | [], g0, c7, c11, c12, c13, h0, _, _, _, _ => ⟨g0, c7, c11, c12, ⟨h0, ⟨1, by omega⟩, fun r hr => (by cases hr), fun S h _ => h⟩, rfl⟩
  | r :: rs, g0, c7, c11, c12, c13, h0, hr, k7, k11, k12 => by
    obtain ⟨l2, sz⟩ := hr r (by simp)
    have a1 : ixD (row r) (.int 1) = some (.int (at_ 1 r)) := ix_row (p := 1) (by omega)
    have a0 : ixD (row r) (.int 0) = some (.int (at_ 0 r)) := ix_row (p := 0) (by omega)
    rw [List.map_cons, e_forS]
    by_cases hz : at_ 1 r = 0
    · obtain ⟨d, dn, dc, de⟩ := g_run (c0 := c0) (c1 := c1) (c2 := c2) (c3 := c3) (c4 := c4) (c5 := c5) (c6 := c6) (c7 := .va (row r)) (c8 := c8) (c9 := c9) (c10 := .va (.int g0)) (c13 := c13) 7900 g0 ((at_ 0 r).natAbs : Int) 20000 h0 (by omega) (by omega) (by omega)
      obtain ⟨g, e7, e11, e12, st, e⟩ := g_loop (c0 := c0) (c1 := c1) (c2 := c2) (c3 := c3) (c4 := c4) (c5 := c5) (c6 := c6) (c8 := c8) (c9 := c9) rs d (.va (row r)) (.va (.int d)) (.va (.int 0)) c13 dn (fun r h => hr r (by simp [h])) rfl rfl rfl
      refine ⟨g, e7, e11, e12, ?_, ?_⟩
      · obtain ⟨⟨u, v, c1⟩, ⟨x, c2⟩, ⟨y, c3⟩⟩ := dc
        obtain ⟨z, c4⟩ := st.d0
        refine ⟨st.nn, ⟨x * z, by rw [c2, c4, Int.mul_assoc]⟩, fun q hq hq0 => ?_, fun S hg hall => st.gen S ?_ fun q hq => hall q (by simp [hq])⟩
        · rcases List.mem_cons.mp hq with rfl | hq
          · have : ((at_ 0 q).natAbs : Int) = y * z * g := by rw [c3, c4, Int.mul_assoc]
            by_cases hneg : 0 ≤ at_ 0 q
            · exact ⟨y * z, by omega⟩
            · exact ⟨-(y * z), by rw [Int.neg_mul]; omega⟩
          · exact st.dr q hq hq0
        · have g1 := hg.times u
          have g2 := (hall r (by simp) hz)
          have g3 : Gen S ((at_ 0 r).natAbs : Int) 0 := by
            by_cases hneg : 0 ≤ at_ 0 r
            · exact g2.cast (by omega) rfl
            · exact g2.neg.cast (by omega) (by omega)
          exact (g1.plus (g3.times v)).cast c1.symm (by rw [Int.mul_zero, Int.mul_zero]; rfl)
      · unfold law_in_sums_b7
        unfold law_in_sums_b7 at e
        simp only [sq_, seq_nx, seq_rt, seq_rf, seq_bk, seq_ct, seq_ex, loop_nx, loop_rt, loop_rf, loop_bk, loop_ct, loop_ex, s_ok_, s_ex_, bind_ok_, bind_ex_, map_ok_, map_ex_, opt_some_, nox_ok_, gd_true_, exprS_, retS_, retFS_, setS_, setOS_, ifS_, forS_, opM_, varR_, asB_, truM_, notM_, andM_, orM_, call1_, lstE_, consM_, aV_, someM_, slM_, raiseM_, andV_, orV_, ifM_, rd_va, rd_ow, rd_pa, addD_int, subD_int, ltG_int, leG_int, gtG_int, geG_int, intD1_int, intD1_bl, absD_int, lenD_lst, lenD_lsx, lenD_tup, canC_no, canC_va, canC_ow, eqD_int, neD_int, eqD_str, neD_str, e_opV, e_varM, e_rdR, e_get0, e_getS, e_set0, e_setS, e_bind, e_cst, e_setM, e_setO, canSet_, e_tgN, e_tgT, e_tgsNil, e_tgsCons, e_asgM, e_parM, e_tupM, e_lstM, e_notV, e_negM, e_seqA, e_chainM, e_callF1, e_sm1M, e_enumM, e_getL, e_list_ow, e_list_pa, e_own_ow, e_own_pa, e_getO, e_setW, e_appendM, e_aO, e_callG, e_cells0, e_cellsV, e_cellsO, e_omap, e_slots0, e_slotsV, e_slotsO, e_nodup0, e_nodup1, e_toR_ok, e_toR_ex, e_toF_fr, e_toF_ex, e_backO, e_backV, e_back0, e_tru_int, e_tru_bl, e_stepC, e_revF, listF, tupD, e_wipe0, e_wipeS, e_rest0, e_restS, e_for0, e_nox, e_plain_no, e_plain_va, e_all0, e_allS, Bool.and_self, Bool.true_and, fin_nx, fin_rt, fin_rf, fin_ex, kpD_kpc, e_kpc0, e_kpcS, keepC_pa, keepC_va, keepC_ow, keepC_no, if_true, if_false, Bool.true_eq, Bool.false_eq_true, decide_true, List.length_cons, List.length_nil, and_self, Nat.reduceAdd, Nat.reduceSub, Nat.reduceLeDiff, Nat.reduceEqDiff, Int.reduceNeg, k7, a1, hz, k11, k12, a0, abs_if, de, e]
    · obtain ⟨g, e7, e11, e12, st, e⟩ := g_loop (c0 := c0) (c1 := c1) (c2 := c2) (c3 := c3) (c4 := c4) (c5 := c5) (c6 := c6) (c8 := c8) (c9 := c9) rs g0 (.va (row r)) c11 c12 c13 h0 (fun r h => hr r (by simp [h])) rfl k11 k12
      refine ⟨g, e7, e11, e12, ⟨st.nn, st.d0, fun q hq hq0 => ?_, fun S hg hall => st.gen S hg fun q hq => hall q (by simp [hq])⟩, ?_⟩
      · rcases List.mem_cons.mp hq with rfl | hq
        · exact absurd hq0 hz
        · exact st.dr q hq hq0
      · unfold law_in_sums_b7
        unfold law_in_sums_b7 at e
        simp only [sq_, seq_nx, seq_rt, seq_rf, seq_bk, seq_ct, seq_ex, loop_nx, loop_rt, loop_rf, loop_bk, loop_ct, loop_ex, s_ok_, s_ex_, bind_ok_, bind_ex_, map_ok_, map_ex_, opt_some_, nox_ok_, gd_true_, exprS_, retS_, retFS_, setS_, setOS_, ifS_, forS_, opM_, varR_, asB_, truM_, notM_, andM_, orM_, call1_, lstE_, consM_, aV_, someM_, slM_, raiseM_, andV_, orV_, ifM_, rd_va, rd_ow, rd_pa, addD_int, subD_int, ltG_int, leG_int, gtG_int, geG_int, intD1_int, intD1_bl, absD_int, lenD_lst, lenD_lsx, lenD_tup, canC_no, canC_va, canC_ow, eqD_int, neD_int, eqD_str, neD_str, e_opV, e_varM, e_rdR, e_get0, e_getS, e_set0, e_setS, e_bind, e_cst, e_setM, e_setO, canSet_, e_tgN, e_tgT, e_tgsNil, e_tgsCons, e_asgM, e_parM, e_tupM, e_lstM, e_notV, e_negM, e_seqA, e_chainM, e_callF1, e_sm1M, e_enumM, e_getL, e_list_ow, e_list_pa, e_own_ow, e_own_pa, e_getO, e_setW, e_appendM, e_aO, e_callG, e_cells0, e_cellsV, e_cellsO, e_omap, e_slots0, e_slotsV, e_slotsO, e_nodup0, e_nodup1, e_toR_ok, e_toR_ex, e_toF_fr, e_toF_ex, e_backO, e_backV, e_back0, e_tru_int, e_tru_bl, e_stepC, e_revF, listF, tupD, e_wipe0, e_wipeS, e_rest0, e_restS, e_for0, e_nox, e_plain_no, e_plain_va, e_all0, e_allS, Bool.and_self, Bool.true_and, fin_nx, fin_rt, fin_rf, fin_ex, kpD_kpc, e_kpc0, e_kpcS, keepC_pa, keepC_va, keepC_ow, keepC_no, if_true, if_false, Bool.true_eq, Bool.false_eq_true, decide_true, List.length_cons, List.length_nil, and_self, Nat.reduceAdd, Nat.reduceSub, Nat.reduceLeDiff, Nat.reduceEqDiff, Int.reduceNeg, k7, a1, hz, decide_false, e]
/-! ### what is left behind the row with something at place 1 -/
def lstep (r : List Int) (s : Int × Int) : Option (Int × Int) := if at_ 1 r = 0 then some s else if s.2.fmod (at_ 1 r) = 0 then some (s.1 - s.2.fdiv (at_ 1 r) * at_ 0 r, 0) else none
def lall : List (List Int) → Int × Int → Option (Int × Int)
  | [], s => some s
  | r :: rs, s => (lstep r s).bind (lall rs)
theorem l_loop {c0 c1 c2 c3 c4 c5 c6 c10 c11 c12 c13 : Cell} {A B : Nat} : ∀ (rs : List (List Int)) (s : Int × Int) (n : Nat) (c7 c8 : Cell), s.1.natAbs < 2 ^ n → s.2.natAbs < 2 ^ n → n + 7910 * rs.length < 8000000 → (∀ r ∈ rs, r.length = 2 ∧ Sz 7900 r) → canC c7 = true → canC c8 = true →
    ∃ d7 d8 d9, canC d7 = true ∧ forM (tgN 7) law_in_sums_b4 (rs.map row) [c0, c1, c2, c3, c4, c5, c6, c7, c8, .ow [.int s.1, .int s.2], c10, c11, c12, c13] = match lall rs s with
      | none => .rt (.bl false) [c0, c1, c2, c3, c4, c5, c6, d7, d8, d9, c10, c11, c12, c13]
      | some s' => .nx [c0, c1, c2, c3, c4, c5, c6, d7, d8, .ow [.int s'.1, .int s'.2], c10, c11, c12, c13]
  | [], s, n, c7, c8, _, _, _, _, k7, k8 => ⟨c7, c8, .no, k7, rfl⟩
  | r :: rs, s, n, c7, c8, h1, h2, hn, hr, k7, k8 => by
    obtain ⟨l2, sz⟩ := hr r (by simp)
    rw [List.length_cons] at hn
    have a1 : ixD (row r) (.int 1) = some (.int (at_ 1 r)) := ix_row (p := 1) (by omega)
    have a0 : ixD (row r) (.int 0) = some (.int (at_ 0 r)) := ix_row (p := 0) (by omega)
    have b1 : ixD (.lst [.int s.1, .int s.2]) (.int 1) = some (.int s.2) := rfl
    have b0 : ixD (.lst [.int s.1, .int s.2]) (.int 0) = some (.int s.1) := rfl
    rw [List.map_cons, e_forS]
    unfold lall lstep
    by_cases hz : at_ 1 r = 0
    · obtain ⟨d7, d8, d9, m7, e⟩ := l_loop (c0 := c0) (c1 := c1) (c2 := c2) (c3 := c3) (c4 := c4) (c5 := c5) (c6 := c6) (c10 := c10) (c11 := c11) (c12 := c12) (c13 := c13) (A := A) (B := B) rs s n (.va (row r)) c8 h1 h2 (by omega) (fun r h => hr r (by simp [h])) rfl k8
      refine ⟨d7, d8, d9, m7, ?_⟩
      unfold law_in_sums_b4
      unfold law_in_sums_b4 at e
      simp only [sq_, seq_nx, seq_rt, seq_rf, seq_bk, seq_ct, seq_ex, loop_nx, loop_rt, loop_rf, loop_bk, loop_ct, loop_ex, s_ok_, s_ex_, bind_ok_, bind_ex_, map_ok_, map_ex_, opt_some_, nox_ok_, gd_true_, exprS_, retS_, retFS_, setS_, setOS_, ifS_, forS_, opM_, varR_, asB_, truM_, notM_, andM_, orM_, call1_, lstE_, consM_, aV_, someM_, slM_, raiseM_, andV_, orV_, ifM_, rd_va, rd_ow, rd_pa, addD_int, subD_int, ltG_int, leG_int, gtG_int, geG_int, intD1_int, intD1_bl, absD_int, lenD_lst, lenD_lsx, lenD_tup, canC_no, canC_va, canC_ow, eqD_int, neD_int, eqD_str, neD_str, e_opV, e_varM, e_rdR, e_get0, e_getS, e_set0, e_setS, e_bind, e_cst, e_setM, e_setO, canSet_, e_tgN, e_tgT, e_tgsNil, e_tgsCons, e_asgM, e_parM, e_tupM, e_lstM, e_notV, e_negM, e_seqA, e_chainM, e_callF1, e_sm1M, e_enumM, e_getL, e_list_ow, e_list_pa, e_own_ow, e_own_pa, e_getO, e_setW, e_appendM, e_aO, e_callG, e_cells0, e_cellsV, e_cellsO, e_omap, e_slots0, e_slotsV, e_slotsO, e_nodup0, e_nodup1, e_toR_ok, e_toR_ex, e_toF_fr, e_toF_ex, e_backO, e_backV, e_back0, e_tru_int, e_tru_bl, e_stepC, e_revF, listF, tupD, e_wipe0, e_wipeS, e_rest0, e_restS, e_for0, e_nox, e_plain_no, e_plain_va, e_all0, e_allS, Bool.and_self, Bool.true_and, fin_nx, fin_rt, fin_rf, fin_ex, kpD_kpc, e_kpc0, e_kpcS, keepC_pa, keepC_va, keepC_ow, keepC_no, if_true, if_false, Bool.true_eq, Bool.false_eq_true, decide_true, List.length_cons, List.length_nil, and_self, Nat.reduceAdd, Nat.reduceSub, Nat.reduceLeDiff, Nat.reduceEqDiff, Int.reduceNeg, k7, a1, hz, Bool.not_true, e]
    · have hm := modG_int (i := s.2) hz
      have hd := divG_int (i := s.2) hz (Nat.lt_of_lt_of_le sz.at' (Nat.pow_le_pow_right (by omega) (by omega)))
      by_cases hq : s.2.fmod (at_ 1 r) = 0
      · have hqb : (s.2.fdiv (at_ 1 r)).natAbs < 2 ^ (n + 1) := by have := fdiv_abs (a := s.2) (b := at_ 1 r); rw [Nat.pow_succ]; omega
        have hmu := mulG_int hqb (sz.at' (p := 0)) (by omega)
        have hnew : (s.1 - s.2.fdiv (at_ 1 r) * at_ 0 r).natAbs < 2 ^ (n + 7910) := by
          have p0 := sz.at' (p := 0)
          have p1 : (s.2.fdiv (at_ 1 r) * at_ 0 r).natAbs ≤ 2 ^ (n + 1) * 2 ^ 7900 := by rw [Int.natAbs_mul]; exact Nat.mul_le_mul (by omega) (by omega)
          rw [← Nat.pow_add] at p1
          have p2 : 2 ^ (n + 1 + 7900) * 2 ≤ 2 ^ (n + 7910) := by rw [← Nat.pow_succ]; exact Nat.pow_le_pow_right (by omega) (by omega)
          have p3 : 2 ^ n ≤ 2 ^ (n + 1 + 7900) := Nat.pow_le_pow_right (by omega) (by omega)
          omega
        obtain ⟨d7, d8, d9, m7, e⟩ := l_loop (c0 := c0) (c1 := c1) (c2 := c2) (c3 := c3) (c4 := c4) (c5 := c5) (c6 := c6) (c10 := c10) (c11 := c11) (c12 := c12) (c13 := c13) (A := A) (B := B) rs (s.1 - s.2.fdiv (at_ 1 r) * at_ 0 r, 0) (n + 7910) (.va (row r)) (.va (.int (s.2.fdiv (at_ 1 r)))) hnew (Nat.pow_pos (by omega)) (by omega) (fun r h => hr r (by simp [h])) rfl rfl
        refine ⟨d7, d8, d9, m7, ?_⟩
        unfold law_in_sums_b4
        unfold law_in_sums_b4 at e
        simp only [sq_, seq_nx, seq_rt, seq_rf, seq_bk, seq_ct, seq_ex, loop_nx, loop_rt, loop_rf, loop_bk, loop_ct, loop_ex, s_ok_, s_ex_, bind_ok_, bind_ex_, map_ok_, map_ex_, opt_some_, nox_ok_, gd_true_, exprS_, retS_, retFS_, setS_, setOS_, ifS_, forS_, opM_, varR_, asB_, truM_, notM_, andM_, orM_, call1_, lstE_, consM_, aV_, someM_, slM_, raiseM_, andV_, orV_, ifM_, rd_va, rd_ow, rd_pa, addD_int, subD_int, ltG_int, leG_int, gtG_int, geG_int, intD1_int, intD1_bl, absD_int, lenD_lst, lenD_lsx, lenD_tup, canC_no, canC_va, canC_ow, eqD_int, neD_int, eqD_str, neD_str, e_opV, e_varM, e_rdR, e_get0, e_getS, e_set0, e_setS, e_bind, e_cst, e_setM, e_setO, canSet_, e_tgN, e_tgT, e_tgsNil, e_tgsCons, e_asgM, e_parM, e_tupM, e_lstM, e_notV, e_negM, e_seqA, e_chainM, e_callF1, e_sm1M, e_enumM, e_getL, e_list_ow, e_list_pa, e_own_ow, e_own_pa, e_getO, e_setW, e_appendM, e_aO, e_callG, e_cells0, e_cellsV, e_cellsO, e_omap, e_slots0, e_slotsV, e_slotsO, e_nodup0, e_nodup1, e_toR_ok, e_toR_ex, e_toF_fr, e_toF_ex, e_backO, e_backV, e_back0, e_tru_int, e_tru_bl, e_stepC, e_revF, listF, tupD, e_wipe0, e_wipeS, e_rest0, e_restS, e_for0, e_nox, e_plain_no, e_plain_va, e_all0, e_allS, Bool.and_self, Bool.true_and, fin_nx, fin_rt, fin_rf, fin_ex, kpD_kpc, e_kpc0, e_kpcS, keepC_pa, keepC_va, keepC_ow, keepC_no, if_true, if_false, Bool.true_eq, Bool.false_eq_true, decide_true, List.length_cons, List.length_nil, and_self, Nat.reduceAdd, Nat.reduceSub, Nat.reduceLeDiff, Nat.reduceEqDiff, Int.reduceNeg, k7, a1, hz, hq, Bool.not_true, Bool.not_false, decide_false, b1, b0, a0, hm, hd, k8, hmu, e]
      · refine ⟨.va (row r), c8, .ow [.int s.1, .int s.2], rfl, ?_⟩
        unfold law_in_sums_b4
        simp only [sq_, seq_nx, seq_rt, seq_rf, seq_bk, seq_ct, seq_ex, loop_nx, loop_rt, loop_rf, loop_bk, loop_ct, loop_ex, s_ok_, s_ex_, bind_ok_, bind_ex_, map_ok_, map_ex_, opt_some_, nox_ok_, gd_true_, exprS_, retS_, retFS_, setS_, setOS_, ifS_, forS_, opM_, varR_, asB_, truM_, notM_, andM_, orM_, call1_, lstE_, consM_, aV_, someM_, slM_, raiseM_, andV_, orV_, ifM_, rd_va, rd_ow, rd_pa, addD_int, subD_int, ltG_int, leG_int, gtG_int, geG_int, intD1_int, intD1_bl, absD_int, lenD_lst, lenD_lsx, lenD_tup, canC_no, canC_va, canC_ow, eqD_int, neD_int, eqD_str, neD_str, e_opV, e_varM, e_rdR, e_get0, e_getS, e_set0, e_setS, e_bind, e_cst, e_setM, e_setO, canSet_, e_tgN, e_tgT, e_tgsNil, e_tgsCons, e_asgM, e_parM, e_tupM, e_lstM, e_notV, e_negM, e_seqA, e_chainM, e_callF1, e_sm1M, e_enumM, e_getL, e_list_ow, e_list_pa, e_own_ow, e_own_pa, e_getO, e_setW, e_appendM, e_aO, e_callG, e_cells0, e_cellsV, e_cellsO, e_omap, e_slots0, e_slotsV, e_slotsO, e_nodup0, e_nodup1, e_toR_ok, e_toR_ex, e_toF_fr, e_toF_ex, e_backO, e_backV, e_back0, e_tru_int, e_tru_bl, e_stepC, e_revF, listF, tupD, e_wipe0, e_wipeS, e_rest0, e_restS, e_for0, e_nox, e_plain_no, e_plain_va, e_all0, e_allS, Bool.and_self, Bool.true_and, fin_nx, fin_rt, fin_rf, fin_ex, kpD_kpc, e_kpc0, e_kpcS, keepC_pa, keepC_va, keepC_ow, keepC_no, if_true, if_false, Bool.true_eq, Bool.false_eq_true, decide_true, List.length_cons, List.length_nil, and_self, Nat.reduceAdd, Nat.reduceSub, Nat.reduceLeDiff, Nat.reduceEqDiff, Int.reduceNeg, k7, a1, hz, hq, Bool.not_true, Bool.not_false, decide_false, b1, hm]
        rfl
end K77
end KL
set_option exponentiation.threshold 100000
/-! k77: _law_in_sums says whether a goal is a sum. -/
namespace KL
namespace K77
open PySem L2
theorem lall_nil : ∀ (rs : List (List Int)) (s : Int × Int), nz 1 rs = [] → lall rs s = some s
  | [], s, _ => rfl
  | r :: rs, s, h => by
    unfold nz at h
    rw [List.filter_cons] at h
    by_cases hr : at_ 1 r = 0
    · rw [if_neg (by simpa using hr)] at h
      unfold lall lstep
      rw [if_pos hr, Option.bind_some]
      exact lall_nil rs s h
    · rw [if_pos (by simpa using hr)] at h; cases h
theorem lall_one : ∀ (rs : List (List Int)) (s : Int × Int) (r : List Int), nz 1 rs = [r] → lall rs s = lstep r s
  | [], s, r, h => by cases h
  | q :: rs, s, r, h => by
    unfold nz at h
    rw [List.filter_cons] at h
    by_cases hr : at_ 1 q = 0
    · rw [if_neg (by simpa using hr)] at h
      show (lstep q s).bind (lall rs) = _
      rw [show lstep q s = some s from if_pos hr, Option.bind_some]
      exact lall_one rs s r h
    · rw [if_pos (by simpa using hr)] at h
      injection h with h1 h2
      subst h1
      show (lstep q s).bind (lall rs) = _
      cases e : lstep q s with
      | none => rfl
      | some t => exact lall_nil rs t h2
/-- the answer, by what the two walks leave -/
theorem in_rows {rs : List (List Int)} {g x y : Int} (hn : (nz 1 rs).length ≤ 1) (st : Stp rs 0 g) : Gen (rs.map xy) x y ↔ ∃ z, lall rs (x, y) = some (z, 0) ∧ z.fmod g = 0 := by
  have hg : Gen (rs.map xy) g 0 := st.gen _ .zero fun r hr h => (Gen.mem (p := xy r) (List.mem_map.mpr ⟨r, hr, rfl⟩)).cast rfl h
  have key : ∀ (a b : Int), (∀ r ∈ rs, at_ 1 r = 0 ∨ (at_ 0 r = a ∧ at_ 1 r = b)) → Gen (rs.map xy) a b → (Gen (rs.map xy) x y ↔ ∃ k, y = k * b ∧ ∃ m, x - k * a = m * g) := fun a b h hab => by
    constructor
    · intro gg
      induction gg with
      | zero => exact ⟨0, by omega, 0, by omega⟩
      | @add p hp n x y _ ih =>
        obtain ⟨k, h1, m, h2⟩ := ih
        obtain ⟨r, hr, rfl⟩ := List.mem_map.mp hp
        rcases h r hr with h3 | ⟨h3, h4⟩
        · obtain ⟨u, hu⟩ := st.dr r hr h3
          refine ⟨k, ?_, m + n * u, ?_⟩
          · show y + n * at_ 1 r = _; rw [h3, h1]; omega
          · show x + n * at_ 0 r - k * a = _; rw [hu]; grind
        · refine ⟨k + n, ?_, m, ?_⟩
          · show y + n * at_ 1 r = _; rw [h4, h1]; grind
          · show x + n * at_ 0 r - _ = _; rw [h3]; grind
    · rintro ⟨k, h1, m, h2⟩
      exact ((hab.times k).plus (hg.times m)).cast (by omega) (by rw [h1]; omega)
  match hq : nz 1 rs, hn with
  | [], _ =>
    have hall : ∀ r ∈ rs, at_ 1 r = 0 := fun r hr => by
      have := (List.filter_eq_nil_iff.mp hq) r hr
      simpa using this
    rw [key 0 0 (fun r hr => .inl (hall r hr)) .zero, lall_nil rs _ hq]
    constructor
    · rintro ⟨k, h1, m, h2⟩
      exact ⟨x, by rw [h1, Int.mul_zero], fmod_zero.mpr ⟨m, by omega⟩⟩
    · rintro ⟨z, h1, h2⟩
      injection h1 with h1
      injection h1 with h3 h4
      obtain ⟨m, h5⟩ := fmod_zero.mp h2
      exact ⟨0, by omega, m, by omega⟩
  | [r], _ =>
    have hm : r ∈ nz 1 rs := by rw [hq]; simp
    obtain ⟨hr, h0⟩ := List.mem_filter.mp hm
    have h0 : at_ 1 r ≠ 0 := by simpa using h0
    have hall : ∀ q ∈ rs, at_ 1 q = 0 ∨ (at_ 0 q = at_ 0 r ∧ at_ 1 q = at_ 1 r) := fun q hqm => by
      by_cases h : at_ 1 q = 0
      · exact .inl h
      · have : q ∈ nz 1 rs := List.mem_filter.mpr ⟨hqm, by simpa using h⟩
        rw [hq] at this
        rw [List.mem_singleton.mp this]; exact .inr ⟨rfl, rfl⟩
    rw [key _ _ hall (Gen.mem (p := xy r) (List.mem_map.mpr ⟨r, hr, rfl⟩)), lall_one rs _ r hq]
    unfold lstep
    rw [if_neg h0]
    constructor
    · rintro ⟨k, h1, m, h2⟩
      have e1 : y.fmod (at_ 1 r) = 0 := fmod_zero.mpr ⟨k, h1⟩
      have e2 : y.fdiv (at_ 1 r) = k := by rw [h1]; exact Int.mul_fdiv_cancel k h0
      refine ⟨x - k * at_ 0 r, ?_, fmod_zero.mpr ⟨m, h2⟩⟩
      rw [if_pos e1]
      show some (x - y.fdiv (at_ 1 r) * at_ 0 r, (0 : Int)) = _
      rw [e2]
    · rintro ⟨z, h1, h2⟩
      by_cases e1 : y.fmod (at_ 1 r) = 0
      · rw [if_pos e1] at h1
        injection h1 with h1
        injection h1 with h3 h4
        obtain ⟨m, h5⟩ := fmod_zero.mp h2
        refine ⟨y.fdiv (at_ 1 r), ?_, m, by rw [← h5]; exact h3⟩
        have := Int.mul_fdiv_add_fmod y (at_ 1 r)
        rw [e1] at this
        rw [Int.mul_comm]; omega
      · rw [if_neg e1] at h1; cases h1
  | _ :: _ :: _, h => simp at h
/-- the clearing from its start -/
theorem is_start {N k : Nat} {S0 : List (Int × Int)} {rs : List (List Int)} {c0 c1 c2 c9 c10 c11 c12 c13 : Cell} (hN : N ≤ 10) (ok : Ok 1 2 N (2 ^ 5400) (fun _ => True) S0 rs) (hk : (nz 1 rs).length ≤ 1 ∨ (k ≤ 100 ∧ ∀ r ∈ rs, (at_ 1 r).natAbs < 2 ^ k)) (h2 : rowsC rs c2) :
    ∃ rs' d3 d4 d5 d6 d7 d8, whileM law_in_sums_c2 law_in_sums_b3 20000 [c0, c1, c2, .no, .no, .no, .no, .no, .no, c9, c10, c11, c12, c13] = .nx [c0, c1, .va (.lst (rowsD rs')), d3, d4, d5, d6, d7, d8, c9, c10, c11, c12, c13] ∧
      (canC d3 = true ∧ canC d4 = true ∧ canC d5 = true ∧ canC d6 = true ∧ canC d7 = true ∧ canC d8 = true) ∧ Ok 1 2 N (2 ^ 7500) (fun _ => True) S0 rs' ∧ (nz 1 rs').length ≤ 1 := by
  have hlen : rs.length < 1000 := Nat.lt_of_le_of_lt ok.cnt (by omega)
  rw [e_while, is_cond h2 hlen ok.len rfl]
  by_cases hnz : 1 < (nz 1 rs).length
  case neg =>
    simp only [sq_, seq_nx, seq_rt, seq_rf, seq_bk, seq_ct, seq_ex, loop_nx, loop_rt, loop_rf, loop_bk, loop_ct, loop_ex, s_ok_, s_ex_, bind_ok_, bind_ex_, map_ok_, map_ex_, opt_some_, nox_ok_, gd_true_, exprS_, retS_, retFS_, setS_, setOS_, ifS_, forS_, opM_, varR_, asB_, truM_, notM_, andM_, orM_, call1_, lstE_, consM_, aV_, someM_, slM_, raiseM_, andV_, orV_, ifM_, rd_va, rd_ow, rd_pa, addD_int, subD_int, ltG_int, leG_int, gtG_int, geG_int, intD1_int, intD1_bl, absD_int, lenD_lst, lenD_lsx, lenD_tup, canC_no, canC_va, canC_ow, eqD_int, neD_int, eqD_str, neD_str, e_opV, e_varM, e_rdR, e_get0, e_getS, e_set0, e_setS, e_bind, e_cst, e_setM, e_setO, canSet_, e_tgN, e_tgT, e_tgsNil, e_tgsCons, e_asgM, e_parM, e_tupM, e_lstM, e_notV, e_negM, e_seqA, e_chainM, e_callF1, e_sm1M, e_enumM, e_getL, e_list_ow, e_list_pa, e_own_ow, e_own_pa, e_getO, e_setW, e_appendM, e_aO, e_callG, e_cells0, e_cellsV, e_cellsO, e_omap, e_slots0, e_slotsV, e_slotsO, e_nodup0, e_nodup1, e_toR_ok, e_toR_ex, e_toF_fr, e_toF_ex, e_backO, e_backV, e_back0, e_tru_int, e_tru_bl, e_stepC, e_range1M, e_augPutM, e_aug1, e_aug2, e_putL, e_revF, listF, tupD, e_wipe0, e_wipeS, e_rest0, e_restS, e_for0, e_nox, e_plain_no, e_plain_va, e_all0, e_allS, Bool.and_self, Bool.true_and, fin_nx, fin_rt, fin_rf, fin_ex, kpD_kpc, e_kpc0, e_kpcS, keepC_pa, keepC_va, keepC_ow, keepC_no, if_true, if_false, Bool.true_eq, Bool.false_eq_true, decide_true, List.length_cons, List.length_nil, and_self, Nat.reduceAdd, Nat.reduceSub, Nat.reduceLeDiff, Nat.reduceEqDiff, Int.reduceNeg, hnz, decide_false]
    exact ⟨rs, .no, .no, .no, .no, .no, .no, rfl, ⟨rfl, rfl, rfl, rfl, rfl, rfl⟩, ok.mono (Nat.pow_le_pow_right (by omega) (by omega)), by omega⟩
  obtain ⟨hk1, hk2⟩ := hk.resolve_left (by omega)
  have hsz : ∀ r ∈ rs, Sz 7900 r := fun r hr a ha => by
    have h1 := ok.sm.entry hr ha
    have h2 : 2 ^ 5400 < 2 ^ 7900 := Nat.pow_lt_pow_right (by omega) (by omega)
    omega
  obtain ⟨l, hl, hl0, hmin, d3, d4, d5, d6, d7, d8, kd, q6, q7, ht⟩ := is_turn (c0 := c0) (c1 := c1) (c3 := .no) (c4 := .no) (c5 := .no) (c6 := .no) (c7 := .no) (c8 := .no) (c9 := c9) (c10 := c10) (c11 := c11) (c12 := c12) (c13 := c13) (.inr rfl) hlen ok.len ⟨rfl, rfl, rfl, rfl, rfl, rfl⟩ rfl rfl (Nat.le_refl _) hsz (fun z => by rw [z] at hnz; simp at hnz)
  simp only [sq_, seq_nx, seq_rt, seq_rf, seq_bk, seq_ct, seq_ex, loop_nx, loop_rt, loop_rf, loop_bk, loop_ct, loop_ex, s_ok_, s_ex_, bind_ok_, bind_ex_, map_ok_, map_ex_, opt_some_, nox_ok_, gd_true_, exprS_, retS_, retFS_, setS_, setOS_, ifS_, forS_, opM_, varR_, asB_, truM_, notM_, andM_, orM_, call1_, lstE_, consM_, aV_, someM_, slM_, raiseM_, andV_, orV_, ifM_, rd_va, rd_ow, rd_pa, addD_int, subD_int, ltG_int, leG_int, gtG_int, geG_int, intD1_int, intD1_bl, absD_int, lenD_lst, lenD_lsx, lenD_tup, canC_no, canC_va, canC_ow, eqD_int, neD_int, eqD_str, neD_str, e_opV, e_varM, e_rdR, e_get0, e_getS, e_set0, e_setS, e_bind, e_cst, e_setM, e_setO, canSet_, e_tgN, e_tgT, e_tgsNil, e_tgsCons, e_asgM, e_parM, e_tupM, e_lstM, e_notV, e_negM, e_seqA, e_chainM, e_callF1, e_sm1M, e_enumM, e_getL, e_list_ow, e_list_pa, e_own_ow, e_own_pa, e_getO, e_setW, e_appendM, e_aO, e_callG, e_cells0, e_cellsV, e_cellsO, e_omap, e_slots0, e_slotsV, e_slotsO, e_nodup0, e_nodup1, e_toR_ok, e_toR_ex, e_toF_fr, e_toF_ex, e_backO, e_backV, e_back0, e_tru_int, e_tru_bl, e_stepC, e_range1M, e_augPutM, e_aug1, e_aug2, e_putL, e_revF, listF, tupD, e_wipe0, e_wipeS, e_rest0, e_restS, e_for0, e_nox, e_plain_no, e_plain_va, e_all0, e_allS, Bool.and_self, Bool.true_and, fin_nx, fin_rt, fin_rf, fin_ex, kpD_kpc, e_kpc0, e_kpcS, keepC_pa, keepC_va, keepC_ow, keepC_no, if_true, if_false, Bool.true_eq, Bool.false_eq_true, decide_true, List.length_cons, List.length_nil, and_self, Nat.reduceAdd, Nat.reduceSub, Nat.reduceLeDiff, Nat.reduceEqDiff, Int.reduceNeg, hnz, ht]
  have ok1 := (ok.turn (fun _ _ _ _ _ _ _ => trivial) hl hl0).swap
  have hlow := hk2 _ (gr_mem hl)
  have hpot : pot (gr rs l :: others 1 rs l) ≤ N * k := by
    have hall : ∀ r ∈ gr rs l :: others 1 rs l, wt r ≤ k := fun r hr => by
      rcases List.mem_cons.mp hr with rfl | hr
      · exact bl_lt hlow
      · exact bl_lt (Nat.lt_trans (turn_small hl ok.len hl0 r hr) hlow)
    have hc := ok1.cnt
    generalize gr rs l :: others 1 rs l = q at hall hc
    have : pot q ≤ q.length * k := by
      unfold pot
      induction q with
      | nil => simp
      | cons a q ih =>
        have h1 := hall a (by simp)
        have h2 := ih (fun r hr => hall r (by simp [hr])) (by simp at hc; omega)
        rw [List.map_cons, List.sum_cons, List.length_cons, Nat.add_mul]; omega
    exact Nat.le_trans this (Nat.mul_le_mul_right k hc)
  have hNk : N * k ≤ 1000 := Nat.le_trans (Nat.mul_le_mul hN hk1) (by omega)
  have hC : 4 * 2 ^ 5400 * 4 ^ (N * k) ≤ 2 ^ 7500 := by
    rw [show (4 : Nat) = 2 ^ 2 by rfl, ← Nat.pow_add, ← Nat.pow_mul, ← Nat.pow_add]
    exact Nat.pow_le_pow_right (by omega) (by omega)
  obtain ⟨rs', g3, g4, g5, g6, g7, g8, a1, a2, a3, a4, a5, a6⟩ := is_run (c0 := c0) (c1 := c1) (c9 := c9) (c10 := c10) (c11 := c11) (c12 := c12) (c13 := c13) (show N < 1000 by omega) (N * k) (4 * 2 ^ 5400) _ _ _ _ _ _ _ _ hpot (sgn_turn hl ok.len hl0) ok1 (Nat.lt_of_le_of_lt hC (Nat.pow_lt_pow_right (by omega) (by omega))) (.inl rfl) kd q6 q7 19999 (by omega)
  exact ⟨rs', g3, g4, g5, g6, g7, g8, a1, a2, a5.mono hC, a6⟩
def rw2 (q : Int × Int) : List Int := [q.1, q.2]
theorem is_core {qs : List (Int × Int)} {rs : List (List Int)} {d : D} {d3 d4 d5 d6 d7 d8 : Cell} (hd : d = .lst (pairsD qs) ∨ d = .tup (pairsD qs)) (hl : qs.length ≤ 10) (g : Int × Int) (hg : g.1.natAbs < 2 ^ 5400 ∧ g.2.natAbs < 2 ^ 5400)
    (hw : whileM law_in_sums_c2 law_in_sums_b3 20000 [.va d, .va (pr g), .ow (rowsD (qs.map rw2)), .no, .no, .no, .no, .no, .no, .no, .no, .no, .no, .no] = .nx [.va d, .va (pr g), .va (.lst (rowsD rs)), d3, d4, d5, d6, d7, d8, .no, .no, .no, .no, .no])
    (kd : canC d3 = true ∧ canC d4 = true ∧ canC d5 = true ∧ canC d6 = true ∧ canC d7 = true ∧ canC d8 = true) (hrs : ∀ r ∈ rs, r.length = 2 ∧ Sz 7900 r) (hrl : rs.length ≤ 10) (hsame : Same qs (rs.map xy)) (hnz : (nz 1 rs).length ≤ 1) :
    ∃ b, (b = true ↔ Gen qs g.1 g.2) ∧ F_law_in_sums [.va d, .va (pr g)] = .ok (.bl b) [.no, .no] := by
  obtain ⟨k3, k4, k5, k6, k7, k8⟩ := kd
  obtain ⟨e7, e8, e9, m7, hl2⟩ := l_loop (c0 := .va d) (c1 := .va (pr g)) (c2 := .va (.lst (rowsD rs))) (c3 := d3) (c4 := d4) (c5 := d5) (c6 := d6) (c10 := .no) (c11 := .no) (c12 := .no) (c13 := .no) (A := 0) (B := 0) rs g 5400 d7 d8 hg.1 hg.2 (by omega) hrs k7 k8
  have main : ∃ b, (b = true ↔ Gen qs g.1 g.2) ∧ (m_law_in_sums [.va d, .va (pr g), .no, .no, .no, .no, .no, .no, .no, .no, .no, .no, .no, .no]).fin 2 = .ok (.bl b) [.no, .no] := by
    have first : lcM [13] (seqA (varM 0)) (tgN 13) (cst true) (lstE (callF1 listF (varR 13))) [.va d, .va (pr g), .no, .no, .no, .no, .no, .no, .no, .no, .no, .no, .no, .no] = .ok (rowsD (qs.map rw2)) [.va d, .va (pr g), .no, .no, .no, .no, .no, .no, .no, .no, .no, .no, .no, .no] := by
      rw [lcM_m pr (fun q => row (rw2 q)) (xs := qs) (Δ := [.va d, .va (pr g), .no, .no, .no, .no, .no, .no, .no, .no, .no, .no, .no, .no]) (hi := by rcases hd with rfl | rfl <;> simp only [sq_, seq_nx, seq_rt, seq_rf, seq_bk, seq_ct, seq_ex, loop_nx, loop_rt, loop_rf, loop_bk, loop_ct, loop_ex, s_ok_, s_ex_, bind_ok_, bind_ex_, map_ok_, map_ex_, opt_some_, nox_ok_, gd_true_, exprS_, retS_, retFS_, setS_, setOS_, ifS_, forS_, opM_, varR_, asB_, truM_, notM_, andM_, orM_, call1_, lstE_, consM_, aV_, someM_, slM_, raiseM_, andV_, orV_, ifM_, rd_va, rd_ow, rd_pa, addD_int, subD_int, ltG_int, leG_int, gtG_int, geG_int, intD1_int, intD1_bl, absD_int, lenD_lst, lenD_lsx, lenD_tup, canC_no, canC_va, canC_ow, eqD_int, neD_int, eqD_str, neD_str, e_opV, e_varM, e_rdR, e_get0, e_getS, e_set0, e_setS, e_bind, e_cst, e_setM, e_setO, canSet_, e_tgN, e_tgT, e_tgsNil, e_tgsCons, e_asgM, e_parM, e_tupM, e_lstM, e_notV, e_negM, e_seqA, e_chainM, e_callF1, e_sm1M, e_enumM, e_getL, e_list_ow, e_list_pa, e_own_ow, e_own_pa, e_getO, e_setW, e_appendM, e_aO, e_callG, e_cells0, e_cellsV, e_cellsO, e_omap, e_slots0, e_slotsV, e_slotsO, e_nodup0, e_nodup1, e_toR_ok, e_toR_ex, e_toF_fr, e_toF_ex, e_backO, e_backV, e_back0, e_tru_int, e_tru_bl, e_stepC, e_range1M, e_augPutM, e_aug1, e_aug2, e_putL, e_revF, listF, tupD, e_wipe0, e_wipeS, e_rest0, e_restS, e_for0, e_nox, e_plain_no, e_plain_va, e_all0, e_allS, Bool.and_self, Bool.true_and, fin_nx, fin_rt, fin_rf, fin_ex, kpD_kpc, e_kpc0, e_kpcS, keepC_pa, keepC_va, keepC_ow, keepC_no, if_true, if_false, Bool.true_eq, Bool.false_eq_true, decide_true, List.length_cons, List.length_nil, and_self, Nat.reduceAdd, Nat.reduceSub, Nat.reduceLeDiff, Nat.reduceEqDiff, Int.reduceNeg]) (hl := by omega) (hp := rfl) (h := fun q hq => ?_)]
      · unfold rowsD; rw [List.map_map]; rfl
      · simp only [sq_, seq_nx, seq_rt, seq_rf, seq_bk, seq_ct, seq_ex, loop_nx, loop_rt, loop_rf, loop_bk, loop_ct, loop_ex, s_ok_, s_ex_, bind_ok_, bind_ex_, map_ok_, map_ex_, opt_some_, nox_ok_, gd_true_, exprS_, retS_, retFS_, setS_, setOS_, ifS_, forS_, opM_, varR_, asB_, truM_, notM_, andM_, orM_, call1_, lstE_, consM_, aV_, someM_, slM_, raiseM_, andV_, orV_, ifM_, rd_va, rd_ow, rd_pa, addD_int, subD_int, ltG_int, leG_int, gtG_int, geG_int, intD1_int, intD1_bl, absD_int, lenD_lst, lenD_lsx, lenD_tup, canC_no, canC_va, canC_ow, eqD_int, neD_int, eqD_str, neD_str, e_opV, e_varM, e_rdR, e_get0, e_getS, e_set0, e_setS, e_bind, e_cst, e_setM, e_setO, canSet_, e_tgN, e_tgT, e_tgsNil, e_tgsCons, e_asgM, e_parM, e_tupM, e_lstM, e_notV, e_negM, e_seqA, e_chainM, e_callF1, e_sm1M, e_enumM, e_getL, e_list_ow, e_list_pa, e_own_ow, e_own_pa, e_getO, e_setW, e_appendM, e_aO, e_callG, e_cells0, e_cellsV, e_cellsO, e_omap, e_slots0, e_slotsV, e_slotsO, e_nodup0, e_nodup1, e_toR_ok, e_toR_ex, e_toF_fr, e_toF_ex, e_backO, e_backV, e_back0, e_tru_int, e_tru_bl, e_stepC, e_range1M, e_augPutM, e_aug1, e_aug2, e_putL, e_revF, listF, tupD, e_wipe0, e_wipeS, e_rest0, e_restS, e_for0, e_nox, e_plain_no, e_plain_va, e_all0, e_allS, Bool.and_self, Bool.true_and, fin_nx, fin_rt, fin_rf, fin_ex, kpD_kpc, e_kpc0, e_kpcS, keepC_pa, keepC_va, keepC_ow, keepC_no, if_true, if_false, Bool.true_eq, Bool.false_eq_true, decide_true, List.length_cons, List.length_nil, and_self, Nat.reduceAdd, Nat.reduceSub, Nat.reduceLeDiff, Nat.reduceEqDiff, Int.reduceNeg]; rfl
    obtain ⟨st, f7, f11, f12, hst, hg2⟩ := g_loop (c0 := .va d) (c1 := .va (pr g)) (c2 := .va (.lst (rowsD rs))) (c3 := d3) (c4 := d4) (c5 := d5) (c6 := d6) (c8 := e8) (c9 := .ow [.int ((lall rs g).getD (0, 0)).1, .int 0]) rs 0 e7 .no .no .no (by omega) (fun r hr => ⟨(hrs r hr).1, (hrs r hr).2.at'⟩) m7 rfl rfl
    have hin := in_rows (x := g.1) (y := g.2) hnz hst
    have hS : Gen qs g.1 g.2 ↔ Gen (rs.map xy) g.1 g.2 := hsame.iff
    rw [hS, hin]
    unfold m_law_in_sums
    simp only [sq_, seq_nx, seq_rt, seq_rf, seq_bk, seq_ct, seq_ex, loop_nx, loop_rt, loop_rf, loop_bk, loop_ct, loop_ex, s_ok_, s_ex_, bind_ok_, bind_ex_, map_ok_, map_ex_, opt_some_, nox_ok_, gd_true_, exprS_, retS_, retFS_, setS_, setOS_, ifS_, forS_, opM_, varR_, asB_, truM_, notM_, andM_, orM_, call1_, lstE_, consM_, aV_, someM_, slM_, raiseM_, andV_, orV_, ifM_, rd_va, rd_ow, rd_pa, addD_int, subD_int, ltG_int, leG_int, gtG_int, geG_int, intD1_int, intD1_bl, absD_int, lenD_lst, lenD_lsx, lenD_tup, canC_no, canC_va, canC_ow, eqD_int, neD_int, eqD_str, neD_str, e_opV, e_varM, e_rdR, e_get0, e_getS, e_set0, e_setS, e_bind, e_cst, e_setM, e_setO, canSet_, e_tgN, e_tgT, e_tgsNil, e_tgsCons, e_asgM, e_parM, e_tupM, e_lstM, e_notV, e_negM, e_seqA, e_chainM, e_callF1, e_sm1M, e_enumM, e_getL, e_list_ow, e_list_pa, e_own_ow, e_own_pa, e_getO, e_setW, e_appendM, e_aO, e_callG, e_cells0, e_cellsV, e_cellsO, e_omap, e_slots0, e_slotsV, e_slotsO, e_nodup0, e_nodup1, e_toR_ok, e_toR_ex, e_toF_fr, e_toF_ex, e_backO, e_backV, e_back0, e_tru_int, e_tru_bl, e_stepC, e_range1M, e_augPutM, e_aug1, e_aug2, e_putL, e_revF, listF, tupD, e_wipe0, e_wipeS, e_rest0, e_restS, e_for0, e_nox, e_plain_no, e_plain_va, e_all0, e_allS, Bool.and_self, Bool.true_and, fin_nx, fin_rt, fin_rf, fin_ex, kpD_kpc, e_kpc0, e_kpcS, keepC_pa, keepC_va, keepC_ow, keepC_no, if_true, if_false, Bool.true_eq, Bool.false_eq_true, decide_true, List.length_cons, List.length_nil, and_self, Nat.reduceAdd, Nat.reduceSub, Nat.reduceLeDiff, Nat.reduceEqDiff, Int.reduceNeg, first, hw]
    have hrows : (rowsD rs) = rs.map row := rfl
    cases hL : lall rs g with
    | none =>
      rw [hL] at hl2
      refine ⟨false, ⟨fun h => (by cases h), fun ⟨z, h, _⟩ => (by cases h)⟩, ?_⟩
      simp only [sq_, seq_nx, seq_rt, seq_rf, seq_bk, seq_ct, seq_ex, loop_nx, loop_rt, loop_rf, loop_bk, loop_ct, loop_ex, s_ok_, s_ex_, bind_ok_, bind_ex_, map_ok_, map_ex_, opt_some_, nox_ok_, gd_true_, exprS_, retS_, retFS_, setS_, setOS_, ifS_, forS_, opM_, varR_, asB_, truM_, notM_, andM_, orM_, call1_, lstE_, consM_, aV_, someM_, slM_, raiseM_, andV_, orV_, ifM_, rd_va, rd_ow, rd_pa, addD_int, subD_int, ltG_int, leG_int, gtG_int, geG_int, intD1_int, intD1_bl, absD_int, lenD_lst, lenD_lsx, lenD_tup, canC_no, canC_va, canC_ow, eqD_int, neD_int, eqD_str, neD_str, e_opV, e_varM, e_rdR, e_get0, e_getS, e_set0, e_setS, e_bind, e_cst, e_setM, e_setO, canSet_, e_tgN, e_tgT, e_tgsNil, e_tgsCons, e_asgM, e_parM, e_tupM, e_lstM, e_notV, e_negM, e_seqA, e_chainM, e_callF1, e_sm1M, e_enumM, e_getL, e_list_ow, e_list_pa, e_own_ow, e_own_pa, e_getO, e_setW, e_appendM, e_aO, e_callG, e_cells0, e_cellsV, e_cellsO, e_omap, e_slots0, e_slotsV, e_slotsO, e_nodup0, e_nodup1, e_toR_ok, e_toR_ex, e_toF_fr, e_toF_ex, e_backO, e_backV, e_back0, e_tru_int, e_tru_bl, e_stepC, e_range1M, e_augPutM, e_aug1, e_aug2, e_putL, e_revF, listF, tupD, e_wipe0, e_wipeS, e_rest0, e_restS, e_for0, e_nox, e_plain_no, e_plain_va, e_all0, e_allS, Bool.and_self, Bool.true_and, fin_nx, fin_rt, fin_rf, fin_ex, kpD_kpc, e_kpc0, e_kpcS, keepC_pa, keepC_va, keepC_ow, keepC_no, if_true, if_false, Bool.true_eq, Bool.false_eq_true, decide_true, List.length_cons, List.length_nil, and_self, Nat.reduceAdd, Nat.reduceSub, Nat.reduceLeDiff, Nat.reduceEqDiff, Int.reduceNeg, hrows, hl2]
    | some s =>
      rw [hL] at hl2 hg2
      obtain ⟨s1, s2⟩ := s
      have b1 : ixD (.lst [.int s1, .int s2]) (.int 1) = some (.int s2) := rfl
      by_cases h2 : s2 = 0
      case neg =>
        refine ⟨false, ⟨fun h => (by cases h), fun ⟨z, h, _⟩ => ?_⟩, ?_⟩
        · injection h with h
          injection h with h3 h4
          exact absurd h4 h2
        · simp only [sq_, seq_nx, seq_rt, seq_rf, seq_bk, seq_ct, seq_ex, loop_nx, loop_rt, loop_rf, loop_bk, loop_ct, loop_ex, s_ok_, s_ex_, bind_ok_, bind_ex_, map_ok_, map_ex_, opt_some_, nox_ok_, gd_true_, exprS_, retS_, retFS_, setS_, setOS_, ifS_, forS_, opM_, varR_, asB_, truM_, notM_, andM_, orM_, call1_, lstE_, consM_, aV_, someM_, slM_, raiseM_, andV_, orV_, ifM_, rd_va, rd_ow, rd_pa, addD_int, subD_int, ltG_int, leG_int, gtG_int, geG_int, intD1_int, intD1_bl, absD_int, lenD_lst, lenD_lsx, lenD_tup, canC_no, canC_va, canC_ow, eqD_int, neD_int, eqD_str, neD_str, e_opV, e_varM, e_rdR, e_get0, e_getS, e_set0, e_setS, e_bind, e_cst, e_setM, e_setO, canSet_, e_tgN, e_tgT, e_tgsNil, e_tgsCons, e_asgM, e_parM, e_tupM, e_lstM, e_notV, e_negM, e_seqA, e_chainM, e_callF1, e_sm1M, e_enumM, e_getL, e_list_ow, e_list_pa, e_own_ow, e_own_pa, e_getO, e_setW, e_appendM, e_aO, e_callG, e_cells0, e_cellsV, e_cellsO, e_omap, e_slots0, e_slotsV, e_slotsO, e_nodup0, e_nodup1, e_toR_ok, e_toR_ex, e_toF_fr, e_toF_ex, e_backO, e_backV, e_back0, e_tru_int, e_tru_bl, e_stepC, e_range1M, e_augPutM, e_aug1, e_aug2, e_putL, e_revF, listF, tupD, e_wipe0, e_wipeS, e_rest0, e_restS, e_for0, e_nox, e_plain_no, e_plain_va, e_all0, e_allS, Bool.and_self, Bool.true_and, fin_nx, fin_rt, fin_rf, fin_ex, kpD_kpc, e_kpc0, e_kpcS, keepC_pa, keepC_va, keepC_ow, keepC_no, if_true, if_false, Bool.true_eq, Bool.false_eq_true, decide_true, List.length_cons, List.length_nil, and_self, Nat.reduceAdd, Nat.reduceSub, Nat.reduceLeDiff, Nat.reduceEqDiff, Int.reduceNeg, hrows, hl2, b1, h2, decide_false, Bool.not_false]
      subst h2
      have hg2 : forM (tgN 7) law_in_sums_b7 (rs.map row) [.va d, .va (pr g), .va (.lst (rowsD rs)), d3, d4, d5, d6, e7, e8, .ow [.int s1, .int 0], .va (.int 0), .no, .no, .no] = .nx [.va d, .va (pr g), .va (.lst (rowsD rs)), d3, d4, d5, d6, f7, e8, .ow [.int s1, .int 0], .va (.int st), f11, f12, .no] := hg2
      have b0 : ixD (.lst [.int s1, .int 0]) (.int 0) = some (.int s1) := rfl
      refine ⟨if st = 0 then decide (s1 = 0) else decide (s1.fmod st = 0), ?_, ?_⟩
      · have hz : (∃ z, some (s1, (0 : Int)) = some (z, 0) ∧ z.fmod st = 0) ↔ s1.fmod st = 0 := by
          constructor
          · rintro ⟨z, h, h2⟩
            injection h with h
            injection h with h3 h4
            rw [h3]; exact h2
          · intro h; exact ⟨s1, rfl, h⟩
        rw [hz]
        by_cases h0 : st = 0
        · rw [if_pos h0, h0, Int.fmod_zero]; simp
        · rw [if_neg h0]; simp
      · by_cases h0 : st = 0
        · simp only [sq_, seq_nx, seq_rt, seq_rf, seq_bk, seq_ct, seq_ex, loop_nx, loop_rt, loop_rf, loop_bk, loop_ct, loop_ex, s_ok_, s_ex_, bind_ok_, bind_ex_, map_ok_, map_ex_, opt_some_, nox_ok_, gd_true_, exprS_, retS_, retFS_, setS_, setOS_, ifS_, forS_, opM_, varR_, asB_, truM_, notM_, andM_, orM_, call1_, lstE_, consM_, aV_, someM_, slM_, raiseM_, andV_, orV_, ifM_, rd_va, rd_ow, rd_pa, addD_int, subD_int, ltG_int, leG_int, gtG_int, geG_int, intD1_int, intD1_bl, absD_int, lenD_lst, lenD_lsx, lenD_tup, canC_no, canC_va, canC_ow, eqD_int, neD_int, eqD_str, neD_str, e_opV, e_varM, e_rdR, e_get0, e_getS, e_set0, e_setS, e_bind, e_cst, e_setM, e_setO, canSet_, e_tgN, e_tgT, e_tgsNil, e_tgsCons, e_asgM, e_parM, e_tupM, e_lstM, e_notV, e_negM, e_seqA, e_chainM, e_callF1, e_sm1M, e_enumM, e_getL, e_list_ow, e_list_pa, e_own_ow, e_own_pa, e_getO, e_setW, e_appendM, e_aO, e_callG, e_cells0, e_cellsV, e_cellsO, e_omap, e_slots0, e_slotsV, e_slotsO, e_nodup0, e_nodup1, e_toR_ok, e_toR_ex, e_toF_fr, e_toF_ex, e_backO, e_backV, e_back0, e_tru_int, e_tru_bl, e_stepC, e_range1M, e_augPutM, e_aug1, e_aug2, e_putL, e_revF, listF, tupD, e_wipe0, e_wipeS, e_rest0, e_restS, e_for0, e_nox, e_plain_no, e_plain_va, e_all0, e_allS, Bool.and_self, Bool.true_and, fin_nx, fin_rt, fin_rf, fin_ex, kpD_kpc, e_kpc0, e_kpcS, keepC_pa, keepC_va, keepC_ow, keepC_no, if_true, if_false, Bool.true_eq, Bool.false_eq_true, decide_true, List.length_cons, List.length_nil, and_self, Nat.reduceAdd, Nat.reduceSub, Nat.reduceLeDiff, Nat.reduceEqDiff, Int.reduceNeg, hrows, hl2, b1, Bool.not_true]
          rw [← hrows] at hg2 ⊢
          simp only [sq_, seq_nx, seq_rt, seq_rf, seq_bk, seq_ct, seq_ex, loop_nx, loop_rt, loop_rf, loop_bk, loop_ct, loop_ex, s_ok_, s_ex_, bind_ok_, bind_ex_, map_ok_, map_ex_, opt_some_, nox_ok_, gd_true_, exprS_, retS_, retFS_, setS_, setOS_, ifS_, forS_, opM_, varR_, asB_, truM_, notM_, andM_, orM_, call1_, lstE_, consM_, aV_, someM_, slM_, raiseM_, andV_, orV_, ifM_, rd_va, rd_ow, rd_pa, addD_int, subD_int, ltG_int, leG_int, gtG_int, geG_int, intD1_int, intD1_bl, absD_int, lenD_lst, lenD_lsx, lenD_tup, canC_no, canC_va, canC_ow, eqD_int, neD_int, eqD_str, neD_str, e_opV, e_varM, e_rdR, e_get0, e_getS, e_set0, e_setS, e_bind, e_cst, e_setM, e_setO, canSet_, e_tgN, e_tgT, e_tgsNil, e_tgsCons, e_asgM, e_parM, e_tupM, e_lstM, e_notV, e_negM, e_seqA, e_chainM, e_callF1, e_sm1M, e_enumM, e_getL, e_list_ow, e_list_pa, e_own_ow, e_own_pa, e_getO, e_setW, e_appendM, e_aO, e_callG, e_cells0, e_cellsV, e_cellsO, e_omap, e_slots0, e_slotsV, e_slotsO, e_nodup0, e_nodup1, e_toR_ok, e_toR_ex, e_toF_fr, e_toF_ex, e_backO, e_backV, e_back0, e_tru_int, e_tru_bl, e_stepC, e_range1M, e_augPutM, e_aug1, e_aug2, e_putL, e_revF, listF, tupD, e_wipe0, e_wipeS, e_rest0, e_restS, e_for0, e_nox, e_plain_no, e_plain_va, e_all0, e_allS, Bool.and_self, Bool.true_and, fin_nx, fin_rt, fin_rf, fin_ex, kpD_kpc, e_kpc0, e_kpcS, keepC_pa, keepC_va, keepC_ow, keepC_no, if_true, if_false, Bool.true_eq, Bool.false_eq_true, decide_true, List.length_cons, List.length_nil, and_self, Nat.reduceAdd, Nat.reduceSub, Nat.reduceLeDiff, Nat.reduceEqDiff, Int.reduceNeg, hrows, hg2, b0, h0]
        · have hm := modG_int (i := s1) h0
          simp only [sq_, seq_nx, seq_rt, seq_rf, seq_bk, seq_ct, seq_ex, loop_nx, loop_rt, loop_rf, loop_bk, loop_ct, loop_ex, s_ok_, s_ex_, bind_ok_, bind_ex_, map_ok_, map_ex_, opt_some_, nox_ok_, gd_true_, exprS_, retS_, retFS_, setS_, setOS_, ifS_, forS_, opM_, varR_, asB_, truM_, notM_, andM_, orM_, call1_, lstE_, consM_, aV_, someM_, slM_, raiseM_, andV_, orV_, ifM_, rd_va, rd_ow, rd_pa, addD_int, subD_int, ltG_int, leG_int, gtG_int, geG_int, intD1_int, intD1_bl, absD_int, lenD_lst, lenD_lsx, lenD_tup, canC_no, canC_va, canC_ow, eqD_int, neD_int, eqD_str, neD_str, e_opV, e_varM, e_rdR, e_get0, e_getS, e_set0, e_setS, e_bind, e_cst, e_setM, e_setO, canSet_, e_tgN, e_tgT, e_tgsNil, e_tgsCons, e_asgM, e_parM, e_tupM, e_lstM, e_notV, e_negM, e_seqA, e_chainM, e_callF1, e_sm1M, e_enumM, e_getL, e_list_ow, e_list_pa, e_own_ow, e_own_pa, e_getO, e_setW, e_appendM, e_aO, e_callG, e_cells0, e_cellsV, e_cellsO, e_omap, e_slots0, e_slotsV, e_slotsO, e_nodup0, e_nodup1, e_toR_ok, e_toR_ex, e_toF_fr, e_toF_ex, e_backO, e_backV, e_back0, e_tru_int, e_tru_bl, e_stepC, e_range1M, e_augPutM, e_aug1, e_aug2, e_putL, e_revF, listF, tupD, e_wipe0, e_wipeS, e_rest0, e_restS, e_for0, e_nox, e_plain_no, e_plain_va, e_all0, e_allS, Bool.and_self, Bool.true_and, fin_nx, fin_rt, fin_rf, fin_ex, kpD_kpc, e_kpc0, e_kpcS, keepC_pa, keepC_va, keepC_ow, keepC_no, if_true, if_false, Bool.true_eq, Bool.false_eq_true, decide_true, List.length_cons, List.length_nil, and_self, Nat.reduceAdd, Nat.reduceSub, Nat.reduceLeDiff, Nat.reduceEqDiff, Int.reduceNeg, hrows, hl2, b1, Bool.not_true]
          rw [← hrows] at hg2 ⊢
          simp only [sq_, seq_nx, seq_rt, seq_rf, seq_bk, seq_ct, seq_ex, loop_nx, loop_rt, loop_rf, loop_bk, loop_ct, loop_ex, s_ok_, s_ex_, bind_ok_, bind_ex_, map_ok_, map_ex_, opt_some_, nox_ok_, gd_true_, exprS_, retS_, retFS_, setS_, setOS_, ifS_, forS_, opM_, varR_, asB_, truM_, notM_, andM_, orM_, call1_, lstE_, consM_, aV_, someM_, slM_, raiseM_, andV_, orV_, ifM_, rd_va, rd_ow, rd_pa, addD_int, subD_int, ltG_int, leG_int, gtG_int, geG_int, intD1_int, intD1_bl, absD_int, lenD_lst, lenD_lsx, lenD_tup, canC_no, canC_va, canC_ow, eqD_int, neD_int, eqD_str, neD_str, e_opV, e_varM, e_rdR, e_get0, e_getS, e_set0, e_setS, e_bind, e_cst, e_setM, e_setO, canSet_, e_tgN, e_tgT, e_tgsNil, e_tgsCons, e_asgM, e_parM, e_tupM, e_lstM, e_notV, e_negM, e_seqA, e_chainM, e_callF1, e_sm1M, e_enumM, e_getL, e_list_ow, e_list_pa, e_own_ow, e_own_pa, e_getO, e_setW, e_appendM, e_aO, e_callG, e_cells0, e_cellsV, e_cellsO, e_omap, e_slots0, e_slotsV, e_slotsO, e_nodup0, e_nodup1, e_toR_ok, e_toR_ex, e_toF_fr, e_toF_ex, e_backO, e_backV, e_back0, e_tru_int, e_tru_bl, e_stepC, e_range1M, e_augPutM, e_aug1, e_aug2, e_putL, e_revF, listF, tupD, e_wipe0, e_wipeS, e_rest0, e_restS, e_for0, e_nox, e_plain_no, e_plain_va, e_all0, e_allS, Bool.and_self, Bool.true_and, fin_nx, fin_rt, fin_rf, fin_ex, kpD_kpc, e_kpc0, e_kpcS, keepC_pa, keepC_va, keepC_ow, keepC_no, if_true, if_false, Bool.true_eq, Bool.false_eq_true, decide_true, List.length_cons, List.length_nil, and_self, Nat.reduceAdd, Nat.reduceSub, Nat.reduceLeDiff, Nat.reduceEqDiff, Int.reduceNeg, hrows, hg2, b0, h0, decide_false, hm]
  obtain ⟨b, h1, h2⟩ := main
  refine ⟨b, h1, ?_⟩
  unfold F_law_in_sums
  rw [bodyF_]
  exact h2
theorem is_fn {qs : List (Int × Int)} {k : Nat} {d : D} (hd : d = .lst (pairsD qs) ∨ d = .tup (pairsD qs)) (hl : qs.length ≤ 10) (hs : ∀ q ∈ qs, q.1.natAbs ≤ 2 ^ 2700 ∧ q.2.natAbs ≤ 2 ^ 2700) (hk : (nz 1 (qs.map rw2)).length ≤ 1 ∨ (k ≤ 100 ∧ ∀ q ∈ qs, q.2.natAbs < 2 ^ k)) (g : Int × Int) (hg : g.1.natAbs < 2 ^ 5400 ∧ g.2.natAbs < 2 ^ 5400) :
    ∃ b, (b = true ↔ Gen qs g.1 g.2) ∧ F_law_in_sums [.va d, .va (pr g)] = .ok (.bl b) [.no, .no] := by
  have hx : (qs.map rw2).map xy = qs := by
    rw [List.map_map]
    conv => rhs; rw [← List.map_id qs]
    rfl
  have ok : Ok 1 2 10 (2 ^ 5400) (fun _ => True) qs (qs.map rw2) := by
    refine ⟨fun r hr => ?_, by rw [List.length_map]; omega, ⟨2 ^ 2700, 2 ^ 2700, fun r hr a ha => ?_, fun r hr => ?_, Nat.pow_pos (by omega), by rw [← Nat.pow_add]; exact Nat.le_refl _⟩, fun _ _ => trivial, by rw [hx]; exact Same.refl _⟩
    · obtain ⟨q, hq, rfl⟩ := List.mem_map.mp hr; rfl
    · obtain ⟨q, hq, rfl⟩ := List.mem_map.mp hr
      have := hs q hq
      have ha : a = q.1 ∨ a = q.2 := by simpa [rw2] using ha
      rcases ha with rfl | rfl
      · exact this.1
      · exact this.2
    · obtain ⟨q, hq, rfl⟩ := List.mem_map.mp hr
      exact (hs q hq).2
  obtain ⟨rs, d3, d4, d5, d6, d7, d8, hw, kd, ok', hnz⟩ := is_start (k := k) (c0 := .va d) (c1 := .va (pr g)) (c2 := .ow (rowsD (qs.map rw2))) (c9 := .no) (c10 := .no) (c11 := .no) (c12 := .no) (c13 := .no) (by omega) ok (hk.imp id fun h => ⟨h.1, fun r hr => by obtain ⟨q, hq, rfl⟩ := List.mem_map.mp hr; exact h.2 q hq⟩) (.inl rfl)
  have p75 : (2 : Nat) ^ 7500 < 2 ^ 7900 := Nat.pow_lt_pow_right (by omega) (by omega)
  exact is_core hd hl g hg hw kd (fun r hr => ⟨ok'.len r hr, fun a ha => by have := ok'.sm.entry hr ha; omega⟩) ok'.cnt ok'.same hnz
/-- where no clearing is due -/
theorem is_fn1 {qs : List (Int × Int)} {d : D} (hd : d = .lst (pairsD qs) ∨ d = .tup (pairsD qs)) (hl : qs.length ≤ 10) (hs : ∀ q ∈ qs, q.1.natAbs ≤ 2 ^ 5300 ∧ q.2.natAbs ≤ 2 ^ 5300) (hk : (nz 1 (qs.map rw2)).length ≤ 1) (g : Int × Int) (hg : g.1.natAbs < 2 ^ 5400 ∧ g.2.natAbs < 2 ^ 5400) :
    ∃ b, (b = true ↔ Gen qs g.1 g.2) ∧ F_law_in_sums [.va d, .va (pr g)] = .ok (.bl b) [.no, .no] := by
  have hx : (qs.map rw2).map xy = qs := by
    rw [List.map_map]
    conv => rhs; rw [← List.map_id qs]
    rfl
  have hlen : ∀ r ∈ qs.map rw2, r.length = 2 := fun r hr => by obtain ⟨q, hq, rfl⟩ := List.mem_map.mp hr; rfl
  refine is_core (rs := qs.map rw2) (d3 := .no) (d4 := .no) (d5 := .no) (d6 := .no) (d7 := .no) (d8 := .no) hd hl g hg ?_ ⟨rfl, rfl, rfl, rfl, rfl, rfl⟩ (fun r hr => ⟨hlen r hr, fun a ha => ?_⟩) (by rw [List.length_map]; exact hl) (by rw [hx]; exact Same.refl _) hk
  · rw [e_while, is_cond (.inl rfl) (by rw [List.length_map]; omega) hlen rfl]
    have hn : ¬ 1 < (nz 1 (qs.map rw2)).length := by omega
    simp only [sq_, seq_nx, seq_rt, seq_rf, seq_bk, seq_ct, seq_ex, loop_nx, loop_rt, loop_rf, loop_bk, loop_ct, loop_ex, s_ok_, s_ex_, bind_ok_, bind_ex_, map_ok_, map_ex_, opt_some_, nox_ok_, gd_true_, exprS_, retS_, retFS_, setS_, setOS_, ifS_, forS_, opM_, varR_, asB_, truM_, notM_, andM_, orM_, call1_, lstE_, consM_, aV_, someM_, slM_, raiseM_, andV_, orV_, ifM_, rd_va, rd_ow, rd_pa, addD_int, subD_int, ltG_int, leG_int, gtG_int, geG_int, intD1_int, intD1_bl, absD_int, lenD_lst, lenD_lsx, lenD_tup, canC_no, canC_va, canC_ow, eqD_int, neD_int, eqD_str, neD_str, e_opV, e_varM, e_rdR, e_get0, e_getS, e_set0, e_setS, e_bind, e_cst, e_setM, e_setO, canSet_, e_tgN, e_tgT, e_tgsNil, e_tgsCons, e_asgM, e_parM, e_tupM, e_lstM, e_notV, e_negM, e_seqA, e_chainM, e_callF1, e_sm1M, e_enumM, e_getL, e_list_ow, e_list_pa, e_own_ow, e_own_pa, e_getO, e_setW, e_appendM, e_aO, e_callG, e_cells0, e_cellsV, e_cellsO, e_omap, e_slots0, e_slotsV, e_slotsO, e_nodup0, e_nodup1, e_toR_ok, e_toR_ex, e_toF_fr, e_toF_ex, e_backO, e_backV, e_back0, e_tru_int, e_tru_bl, e_stepC, e_range1M, e_augPutM, e_aug1, e_aug2, e_putL, e_revF, listF, tupD, e_wipe0, e_wipeS, e_rest0, e_restS, e_for0, e_nox, e_plain_no, e_plain_va, e_all0, e_allS, Bool.and_self, Bool.true_and, fin_nx, fin_rt, fin_rf, fin_ex, kpD_kpc, e_kpc0, e_kpcS, keepC_pa, keepC_va, keepC_ow, keepC_no, if_true, if_false, Bool.true_eq, Bool.false_eq_true, decide_true, List.length_cons, List.length_nil, and_self, Nat.reduceAdd, Nat.reduceSub, Nat.reduceLeDiff, Nat.reduceEqDiff, Int.reduceNeg, hn, decide_false]
  · obtain ⟨q, hq, rfl⟩ := List.mem_map.mp hr
    have := hs q hq
    have ha : a = q.1 ∨ a = q.2 := by simpa [rw2] using ha
    have p : (2 : Nat) ^ 5300 < 2 ^ 7900 := Nat.pow_lt_pow_right (by omega) (by omega)
    rcases ha with rfl | rfl <;> omega
end K77
end KL
set_option exponentiation.threshold 100000
/-! k77: the law's small functions. -/
namespace KL
namespace K77
open PySem L2
/-! ### texts -/
def Lets (cs : List Nat) : Prop := ∀ c ∈ cs, c = 97 ∨ c = 65 ∨ c = 98 ∨ c = 66
def cntP (cs : List Nat) : Int × Int := ((cs.count 97 : Int) - (cs.count 65 : Int), (cs.count 98 : Int) - (cs.count 66 : Int))
theorem po_loop {c0 : Cell} : ∀ (cs : List Nat) (x y : Int) (c2 : Cell), Lets cs → canC c2 = true → ∃ d2, forM (tgN 2) pair_of_b1 (cs.map chD) [c0, .ow [.int x, .int y], c2] = .nx [c0, .ow [.int (x + (cntP cs).1), .int (y + (cntP cs).2)], d2]
  | [], x, y, c2, _, _ => ⟨c2, by show SRes.nx [c0, .ow [.int x, .int y], c2] = SRes.nx [c0, .ow [.int (x + (0 - 0)), .int (y + (0 - 0))], c2]; rw [show (0 : Int) - 0 = 0 by rfl, Int.add_zero, Int.add_zero]⟩
  | c :: cs, x, y, c2, hl, hc => by
    have hcs : Lets cs := fun d hd => hl d (by simp [hd])
    have a0 : ∀ (u v : Int), atI [D.int u, D.int v] 0 = some (.int u) := fun _ _ => rfl
    have a1 : ∀ (u v : Int), atI [D.int u, D.int v] 1 = some (.int v) := fun _ _ => rfl
    have n0 : ixN 2 0 = some 0 := rfl
    have n1 : ixN 2 1 = some 1 := rfl
    have s0 : ∀ (u v w : D), [u, v].set 0 w = [w, v] := fun _ _ _ => rfl
    have s1 : ∀ (u v w : D), [u, v].set 1 w = [u, w] := fun _ _ _ => rfl
    have ia : ∀ (u v : Int), iaddD (.int u) (.int v) = some (.int (u + v)) := fun _ _ => rfl
    have go : ∀ (u v : Int), dcG d_STEPS (chD c) = some (.tup [.int u, .int v]) → (cntP (c :: cs)).1 = (cntP cs).1 + u → (cntP (c :: cs)).2 = (cntP cs).2 + v → ∃ d2, forM (tgN 2) pair_of_b1 ((c :: cs).map chD) [c0, .ow [.int x, .int y], c2] = .nx [c0, .ow [.int (x + (cntP (c :: cs)).1), .int (y + (cntP (c :: cs)).2)], d2] := fun u v hd h1 h2 => by
      obtain ⟨d2, e⟩ := po_loop (c0 := c0) cs (x + u) (y + v) (.va (chD c)) hcs rfl
      refine ⟨d2, ?_⟩
      have i0 : ixD (.tup [.int u, .int v]) (.int 0) = some (.int u) := rfl
      have i1 : ixD (.tup [.int u, .int v]) (.int 1) = some (.int v) := rfl
      rw [List.map_cons, e_forS]
      unfold pair_of_b1
      unfold pair_of_b1 at e
      simp only [sq_, seq_nx, seq_rt, seq_rf, seq_bk, seq_ct, seq_ex, loop_nx, loop_rt, loop_rf, loop_bk, loop_ct, loop_ex, s_ok_, s_ex_, bind_ok_, bind_ex_, map_ok_, map_ex_, opt_some_, nox_ok_, gd_true_, exprS_, retS_, retFS_, setS_, setOS_, ifS_, forS_, opM_, varR_, asB_, truM_, notM_, andM_, orM_, call1_, lstE_, consM_, aV_, someM_, slM_, raiseM_, andV_, orV_, ifM_, rd_va, rd_ow, rd_pa, addD_int, subD_int, ltG_int, leG_int, gtG_int, geG_int, intD1_int, intD1_bl, absD_int, lenD_lst, lenD_lsx, lenD_tup, canC_no, canC_va, canC_ow, eqD_int, neD_int, eqD_str, neD_str, e_opV, e_varM, e_rdR, e_get0, e_getS, e_set0, e_setS, e_bind, e_cst, e_setM, e_setO, canSet_, e_tgN, e_tgT, e_tgsNil, e_tgsCons, e_asgM, e_parM, e_tupM, e_lstM, e_notV, e_negM, e_seqA, e_chainM, e_callF1, e_sm1M, e_enumM, e_getL, e_list_ow, e_list_pa, e_own_ow, e_own_pa, e_getO, e_setW, e_appendM, e_aO, e_callG, e_cells0, e_cellsV, e_cellsO, e_omap, e_slots0, e_slotsV, e_slotsO, e_nodup0, e_nodup1, e_toR_ok, e_toR_ex, e_toF_fr, e_toF_ex, e_backO, e_backV, e_back0, e_tru_int, e_tru_bl, e_stepC, e_range1M, e_augPutM, e_aug1, e_aug2, e_putL, e_revF, listF, tupD, e_wipe0, e_wipeS, e_rest0, e_restS, e_for0, e_nox, e_plain_no, e_plain_va, e_all0, e_allS, Bool.and_self, Bool.true_and, fin_nx, fin_rt, fin_rf, fin_ex, kpD_kpc, e_kpc0, e_kpcS, keepC_pa, keepC_va, keepC_ow, keepC_no, if_true, if_false, Bool.true_eq, Bool.false_eq_true, decide_true, List.length_cons, List.length_nil, and_self, Nat.reduceAdd, Nat.reduceSub, Nat.reduceLeDiff, Nat.reduceEqDiff, Int.reduceNeg, hc, a0, a1, hd, i0, i1, n0, n1, ia, s0, s1, e]
      rw [h1, h2, show x + ((cntP cs).1 + u) = x + u + (cntP cs).1 by omega, show y + ((cntP cs).2 + v) = y + v + (cntP cs).2 by omega]
    have hcc := hl c (by simp)
    unfold cntP at go ⊢
    rcases hcc with rfl | rfl | rfl | rfl
    · exact go 1 0 rfl (by simp; omega) (by simp)
    · exact go (-1) 0 rfl (by simp; omega) (by simp)
    · exact go 0 1 rfl (by simp) (by simp; omega)
    · exact go 0 (-1) rfl (by simp) (by simp; omega)
theorem pair_of_fn {cs : List Nat} (h : Lets cs) : F_pair_of [.va (.str (S cs))] = .ok (pr (cntP cs)) [.no] := by
  obtain ⟨d2, e⟩ := po_loop (c0 := .va (.str (S cs))) cs 0 0 .no h rfl
  unfold F_pair_of
  rw [bodyF_]
  show (m_pair_of [.va (.str (S cs)), .no, .no]).fin 1 = _
  unfold m_pair_of
  simp only [sq_, seq_nx, seq_rt, seq_rf, seq_bk, seq_ct, seq_ex, loop_nx, loop_rt, loop_rf, loop_bk, loop_ct, loop_ex, s_ok_, s_ex_, bind_ok_, bind_ex_, map_ok_, map_ex_, opt_some_, nox_ok_, gd_true_, exprS_, retS_, retFS_, setS_, setOS_, ifS_, forS_, opM_, varR_, asB_, truM_, notM_, andM_, orM_, call1_, lstE_, consM_, aV_, someM_, slM_, raiseM_, andV_, orV_, ifM_, rd_va, rd_ow, rd_pa, addD_int, subD_int, ltG_int, leG_int, gtG_int, geG_int, intD1_int, intD1_bl, absD_int, lenD_lst, lenD_lsx, lenD_tup, canC_no, canC_va, canC_ow, eqD_int, neD_int, eqD_str, neD_str, e_opV, e_varM, e_rdR, e_get0, e_getS, e_set0, e_setS, e_bind, e_cst, e_setM, e_setO, canSet_, e_tgN, e_tgT, e_tgsNil, e_tgsCons, e_asgM, e_parM, e_tupM, e_lstM, e_notV, e_negM, e_seqA, e_chainM, e_callF1, e_sm1M, e_enumM, e_getL, e_list_ow, e_list_pa, e_own_ow, e_own_pa, e_getO, e_setW, e_appendM, e_aO, e_callG, e_cells0, e_cellsV, e_cellsO, e_omap, e_slots0, e_slotsV, e_slotsO, e_nodup0, e_nodup1, e_toR_ok, e_toR_ex, e_toF_fr, e_toF_ex, e_backO, e_backV, e_back0, e_tru_int, e_tru_bl, e_stepC, e_range1M, e_augPutM, e_aug1, e_aug2, e_putL, e_revF, listF, tupD, e_wipe0, e_wipeS, e_rest0, e_restS, e_for0, e_nox, e_plain_no, e_plain_va, e_all0, e_allS, Bool.and_self, Bool.true_and, fin_nx, fin_rt, fin_rf, fin_ex, kpD_kpc, e_kpc0, e_kpcS, keepC_pa, keepC_va, keepC_ow, keepC_no, if_true, if_false, Bool.true_eq, Bool.false_eq_true, decide_true, List.length_cons, List.length_nil, and_self, Nat.reduceAdd, Nat.reduceSub, Nat.reduceLeDiff, Nat.reduceEqDiff, Int.reduceNeg, signs_S, e, Int.zero_add]
theorem law_pair_fn (cs : List Nat) : F_law_pair [.va (.str (S cs))] = .ok (pr (cntP cs)) [.no] := by
  have h1 : scountD (S cs) (.str "a") = some (.int (cs.count 97 : Nat)) := congrArg (fun z => some (D.int z)) (count_one cs 97)
  have h2 : scountD (S cs) (.str "A") = some (.int (cs.count 65 : Nat)) := congrArg (fun z => some (D.int z)) (count_one cs 65)
  have h3 : scountD (S cs) (.str "b") = some (.int (cs.count 98 : Nat)) := congrArg (fun z => some (D.int z)) (count_one cs 98)
  have h4 : scountD (S cs) (.str "B") = some (.int (cs.count 66 : Nat)) := congrArg (fun z => some (D.int z)) (count_one cs 66)
  unfold F_law_pair
  rw [bodyF_]
  show (m_law_pair [.va (.str (S cs))]).fin 1 = _
  unfold m_law_pair
  simp only [sq_, seq_nx, seq_rt, seq_rf, seq_bk, seq_ct, seq_ex, loop_nx, loop_rt, loop_rf, loop_bk, loop_ct, loop_ex, s_ok_, s_ex_, bind_ok_, bind_ex_, map_ok_, map_ex_, opt_some_, nox_ok_, gd_true_, exprS_, retS_, retFS_, setS_, setOS_, ifS_, forS_, opM_, varR_, asB_, truM_, notM_, andM_, orM_, call1_, lstE_, consM_, aV_, someM_, slM_, raiseM_, andV_, orV_, ifM_, rd_va, rd_ow, rd_pa, addD_int, subD_int, ltG_int, leG_int, gtG_int, geG_int, intD1_int, intD1_bl, absD_int, lenD_lst, lenD_lsx, lenD_tup, canC_no, canC_va, canC_ow, eqD_int, neD_int, eqD_str, neD_str, e_opV, e_varM, e_rdR, e_get0, e_getS, e_set0, e_setS, e_bind, e_cst, e_setM, e_setO, canSet_, e_tgN, e_tgT, e_tgsNil, e_tgsCons, e_asgM, e_parM, e_tupM, e_lstM, e_notV, e_negM, e_seqA, e_chainM, e_callF1, e_sm1M, e_enumM, e_getL, e_list_ow, e_list_pa, e_own_ow, e_own_pa, e_getO, e_setW, e_appendM, e_aO, e_callG, e_cells0, e_cellsV, e_cellsO, e_omap, e_slots0, e_slotsV, e_slotsO, e_nodup0, e_nodup1, e_toR_ok, e_toR_ex, e_toF_fr, e_toF_ex, e_backO, e_backV, e_back0, e_tru_int, e_tru_bl, e_stepC, e_range1M, e_augPutM, e_aug1, e_aug2, e_putL, e_revF, listF, tupD, e_wipe0, e_wipeS, e_rest0, e_restS, e_for0, e_nox, e_plain_no, e_plain_va, e_all0, e_allS, Bool.and_self, Bool.true_and, fin_nx, fin_rt, fin_rf, fin_ex, kpD_kpc, e_kpc0, e_kpcS, keepC_pa, keepC_va, keepC_ow, keepC_no, if_true, if_false, Bool.true_eq, Bool.false_eq_true, decide_true, List.length_cons, List.length_nil, and_self, Nat.reduceAdd, Nat.reduceSub, Nat.reduceLeDiff, Nat.reduceEqDiff, Int.reduceNeg, h1, h2, h3, h4]
  rfl
/-! ### draws -/
theorem take_fn (l : List Int) (m : Int) (hm : 0 < m) : F_law_take [.pa (l.map D.int), .va (.int m)] = .ok (.int (Cm.tk l m)) [.pa (l.dropLast.map D.int), .no] := Cm.take_ok l m hm
theorem deck_fn (ns : List Int) : ∃ l : List Int, F_law_deck [.va (.lsx (ns.map D.int)), .va (.int 60), .va (.int 14)] = .fr (l.map D.int) [.no, .no, .no] := by
  obtain ⟨l, _, h⟩ := Cm.deck_ok ns 60 14 (by omega) (by omega)
  exact ⟨l, h⟩
def big : Int := 1000000000039
theorem numbers_fn (l : List Int) {m : Nat} (hm : m < 1000) : ∃ (l' : List Int) (v : Int), v.natAbs ≤ m * big.natAbs ∧ F_law_numbers [.pa (l.map D.int), .va (.int (m : Nat))] = .ok (.int v) [.pa (l'.map D.int), .no] := by
  have t1 := take_fn l 5 (by omega)
  have m2 : mulG (.int 2) (.int (m : Nat)) = some (.int (2 * (m : Nat))) := mulG_int (a := 2) (b := 10) (by decide) (by omega) (by omega)
  have t2 := take_fn l.dropLast (2 * (m : Int) + 1) (by omega)
  obtain ⟨t, ht, hlt⟩ := Cm.tk_lt l.dropLast (m := 2 * (m : Int) + 1) (by omega)
  rw [ht] at t2
  have hp : powD (.int 10) (.int 12) = some (.int 1000000000000) := by rw [powD_int (by decide)]; rfl
  have hv : ((t : Int) - m).natAbs ≤ m := by omega
  by_cases h5 : Cm.tk l 5 = 0
  · refine ⟨l.dropLast.dropLast, ((t : Int) - m) * 1000000000039, ?_, ?_⟩
    · rw [Int.natAbs_mul]; exact Nat.mul_le_mul hv (Nat.le_refl _)
    · have mm : mulG (.int ((t : Int) - m)) (.int (1000000000000 + 39)) = some (.int (((t : Int) - m) * 1000000000039)) := mulG_int (a := 10) (b := 50) (by omega) (by decide) (by omega)
      unfold F_law_numbers
      rw [bodyF_]
      show (m_law_numbers [.pa (l.map D.int), .va (.int (m : Nat)), .no]).fin 2 = _
      unfold m_law_numbers
      simp only [sq_, seq_nx, seq_rt, seq_rf, seq_bk, seq_ct, seq_ex, loop_nx, loop_rt, loop_rf, loop_bk, loop_ct, loop_ex, s_ok_, s_ex_, bind_ok_, bind_ex_, map_ok_, map_ex_, opt_some_, nox_ok_, gd_true_, exprS_, retS_, retFS_, setS_, setOS_, ifS_, forS_, opM_, varR_, asB_, truM_, notM_, andM_, orM_, call1_, lstE_, consM_, aV_, someM_, slM_, raiseM_, andV_, orV_, ifM_, rd_va, rd_ow, rd_pa, addD_int, subD_int, ltG_int, leG_int, gtG_int, geG_int, intD1_int, intD1_bl, absD_int, lenD_lst, lenD_lsx, lenD_tup, canC_no, canC_va, canC_ow, eqD_int, neD_int, eqD_str, neD_str, e_opV, e_varM, e_rdR, e_get0, e_getS, e_set0, e_setS, e_bind, e_cst, e_setM, e_setO, canSet_, e_tgN, e_tgT, e_tgsNil, e_tgsCons, e_asgM, e_parM, e_tupM, e_lstM, e_notV, e_negM, e_seqA, e_chainM, e_callF1, e_sm1M, e_enumM, e_getL, e_list_ow, e_list_pa, e_own_ow, e_own_pa, e_getO, e_setW, e_appendM, e_aO, e_callG, e_cells0, e_cellsV, e_cellsO, e_omap, e_slots0, e_slotsV, e_slotsO, e_nodup0, e_nodup1, e_toR_ok, e_toR_ex, e_toF_fr, e_toF_ex, e_backO, e_backV, e_back0, e_tru_int, e_tru_bl, e_stepC, e_range1M, e_augPutM, e_aug1, e_aug2, e_putL, e_revF, listF, tupD, e_wipe0, e_wipeS, e_rest0, e_restS, e_for0, e_nox, e_plain_no, e_plain_va, e_all0, e_allS, Bool.and_self, Bool.true_and, fin_nx, fin_rt, fin_rf, fin_ex, kpD_kpc, e_kpc0, e_kpcS, keepC_pa, keepC_va, keepC_ow, keepC_no, if_true, if_false, Bool.true_eq, Bool.false_eq_true, decide_true, List.length_cons, List.length_nil, and_self, Nat.reduceAdd, Nat.reduceSub, Nat.reduceLeDiff, Nat.reduceEqDiff, Int.reduceNeg, t1, h5, m2, t2, hp, mm]
  · refine ⟨l.dropLast.dropLast, ((t : Int) - m) * 1, ?_, ?_⟩
    · rw [Int.natAbs_mul]; exact Nat.mul_le_mul hv (by decide)
    · have mm : mulG (.int ((t : Int) - m)) (.int 1) = some (.int (((t : Int) - m) * 1)) := mulG_int (a := 10) (b := 50) (by omega) (by decide) (by omega)
      unfold F_law_numbers
      rw [bodyF_]
      show (m_law_numbers [.pa (l.map D.int), .va (.int (m : Nat)), .no]).fin 2 = _
      unfold m_law_numbers
      simp only [sq_, seq_nx, seq_rt, seq_rf, seq_bk, seq_ct, seq_ex, loop_nx, loop_rt, loop_rf, loop_bk, loop_ct, loop_ex, s_ok_, s_ex_, bind_ok_, bind_ex_, map_ok_, map_ex_, opt_some_, nox_ok_, gd_true_, exprS_, retS_, retFS_, setS_, setOS_, ifS_, forS_, opM_, varR_, asB_, truM_, notM_, andM_, orM_, call1_, lstE_, consM_, aV_, someM_, slM_, raiseM_, andV_, orV_, ifM_, rd_va, rd_ow, rd_pa, addD_int, subD_int, ltG_int, leG_int, gtG_int, geG_int, intD1_int, intD1_bl, absD_int, lenD_lst, lenD_lsx, lenD_tup, canC_no, canC_va, canC_ow, eqD_int, neD_int, eqD_str, neD_str, e_opV, e_varM, e_rdR, e_get0, e_getS, e_set0, e_setS, e_bind, e_cst, e_setM, e_setO, canSet_, e_tgN, e_tgT, e_tgsNil, e_tgsCons, e_asgM, e_parM, e_tupM, e_lstM, e_notV, e_negM, e_seqA, e_chainM, e_callF1, e_sm1M, e_enumM, e_getL, e_list_ow, e_list_pa, e_own_ow, e_own_pa, e_getO, e_setW, e_appendM, e_aO, e_callG, e_cells0, e_cellsV, e_cellsO, e_omap, e_slots0, e_slotsV, e_slotsO, e_nodup0, e_nodup1, e_toR_ok, e_toR_ex, e_toF_fr, e_toF_ex, e_backO, e_backV, e_back0, e_tru_int, e_tru_bl, e_stepC, e_range1M, e_augPutM, e_aug1, e_aug2, e_putL, e_revF, listF, tupD, e_wipe0, e_wipeS, e_rest0, e_restS, e_for0, e_nox, e_plain_no, e_plain_va, e_all0, e_allS, Bool.and_self, Bool.true_and, fin_nx, fin_rt, fin_rf, fin_ex, kpD_kpc, e_kpc0, e_kpcS, keepC_pa, keepC_va, keepC_ow, keepC_no, if_true, if_false, Bool.true_eq, Bool.false_eq_true, decide_true, List.length_cons, List.length_nil, and_self, Nat.reduceAdd, Nat.reduceSub, Nat.reduceLeDiff, Nat.reduceEqDiff, Int.reduceNeg, t1, h5, decide_false, m2, t2, hp, mm]
/-! ### rings, forms, refusals -/
theorem shifted_fn {S M T : Int} (hS : 0 < S) (hM : 0 < M) (hs : M.natAbs < 2 ^ 5400 ∧ T.natAbs < 2 ^ 6000) (g : Int × Int) (hg : g.2.natAbs < 2 ^ 5400) :
    F_law_shifted [.va (.tup [.int S, .int M, .int T]), .va (.tup [.int 0, .int 0]), .va (pr g)] = .ok (pr (0 + g.2 - (0 + g.2).fdiv M * M, (0 + g.1 + (0 + g.2).fdiv M * T).fmod S)) [.no, .no, .no] := by
  have i0 : ixD (.tup [.int 0, .int 0]) (.int 0) = some (.int 0) := rfl
  have i1 : ixD (.tup [.int 0, .int 0]) (.int 1) = some (.int 0) := rfl
  have j0 : ixD (pr g) (.int 0) = some (.int g.1) := rfl
  have j1 : ixD (pr g) (.int 1) = some (.int g.2) := rfl
  have d := divG_int (i := 0 + g.2) (show M ≠ 0 by omega) (Nat.lt_of_lt_of_le hs.1 (Nat.pow_le_pow_right (by omega) (by omega)))
  have q : ((0 + g.2).fdiv M).natAbs < 2 ^ 5401 := by have := fdiv_abs (a := 0 + g.2) (b := M); rw [Nat.pow_succ]; omega
  have m1 := mulG_int q hs.1 (by omega)
  have m2 := mulG_int q hs.2 (by omega)
  have md := fun i => modG_int (i := i) (show S ≠ 0 by omega)
  unfold F_law_shifted
  rw [bodyF_]
  show (m_law_shifted [.va (.tup [.int S, .int M, .int T]), .va (.tup [.int 0, .int 0]), .va (pr g), .no, .no, .no, .no, .no]).fin 3 = _
  unfold m_law_shifted
  simp only [sq_, seq_nx, seq_rt, seq_rf, seq_bk, seq_ct, seq_ex, loop_nx, loop_rt, loop_rf, loop_bk, loop_ct, loop_ex, s_ok_, s_ex_, bind_ok_, bind_ex_, map_ok_, map_ex_, opt_some_, nox_ok_, gd_true_, exprS_, retS_, retFS_, setS_, setOS_, ifS_, forS_, opM_, varR_, asB_, truM_, notM_, andM_, orM_, call1_, lstE_, consM_, aV_, someM_, slM_, raiseM_, andV_, orV_, ifM_, rd_va, rd_ow, rd_pa, addD_int, subD_int, ltG_int, leG_int, gtG_int, geG_int, intD1_int, intD1_bl, absD_int, lenD_lst, lenD_lsx, lenD_tup, canC_no, canC_va, canC_ow, eqD_int, neD_int, eqD_str, neD_str, e_opV, e_varM, e_rdR, e_get0, e_getS, e_set0, e_setS, e_bind, e_cst, e_setM, e_setO, canSet_, e_tgN, e_tgT, e_tgsNil, e_tgsCons, e_asgM, e_parM, e_tupM, e_lstM, e_notV, e_negM, e_seqA, e_chainM, e_callF1, e_sm1M, e_enumM, e_getL, e_list_ow, e_list_pa, e_own_ow, e_own_pa, e_getO, e_setW, e_appendM, e_aO, e_callG, e_cells0, e_cellsV, e_cellsO, e_omap, e_slots0, e_slotsV, e_slotsO, e_nodup0, e_nodup1, e_toR_ok, e_toR_ex, e_toF_fr, e_toF_ex, e_backO, e_backV, e_back0, e_tru_int, e_tru_bl, e_stepC, e_range1M, e_augPutM, e_aug1, e_aug2, e_putL, e_revF, listF, tupD, e_wipe0, e_wipeS, e_rest0, e_restS, e_for0, e_nox, e_plain_no, e_plain_va, e_all0, e_allS, Bool.and_self, Bool.true_and, fin_nx, fin_rt, fin_rf, fin_ex, kpD_kpc, e_kpc0, e_kpcS, keepC_pa, keepC_va, keepC_ow, keepC_no, if_true, if_false, Bool.true_eq, Bool.false_eq_true, decide_true, List.length_cons, List.length_nil, and_self, Nat.reduceAdd, Nat.reduceSub, Nat.reduceLeDiff, Nat.reduceEqDiff, Int.reduceNeg, i0, i1, j0, j1, d, m1, m2, md]
theorem refusal_fn {t : Int} (h : t = 0 ∨ t = 1 ∨ t = 2 ∨ t = 3) : F_law_refusal [.va (.int t)] = .ok (.str "pairs") [.no] := by
  rcases h with rfl | rfl | rfl | rfl
  · rfl
  · rfl
  · rfl
  · rfl
end K77
end KL
set_option exponentiation.threshold 100000
/-! k77: the law, its parts. -/
namespace KL
namespace K77
open PySem L2
theorem form_ok {fs : List (List Int)} (h : Shape fs) : F_law_form [.va (.tup (pairsD (fs.map xy)))] = .ok (.bl true) [.no] := by
  have c10 : decide (((1 : Nat) : Int) = 0) = false := rfl
  have c11 : decide (((1 : Nat) : Int) = 1) = true := rfl
  have c20 : decide (((2 : Nat) : Int) = 0) = false := rfl
  have c21 : decide (((2 : Nat) : Int) = 1) = false := rfl
  unfold F_law_form
  rw [bodyF_]
  show (m_law_form [.va (.tup (pairsD (fs.map xy))), .no, .no]).fin 1 = _
  unfold m_law_form
  cases h with
  | zero => rfl
  | @low l h0 h1 =>
    have i0 : ixD (.tup [pr (xy l)]) (.int 0) = some (pr (xy l)) := rfl
    have j0 : ixD (pr (xy l)) (.int 0) = some (.int (at_ 0 l)) := rfl
    have j1 : ixD (pr (xy l)) (.int 1) = some (.int (at_ 1 l)) := rfl
    simp only [sq_, seq_nx, seq_rt, seq_rf, seq_bk, seq_ct, seq_ex, loop_nx, loop_rt, loop_rf, loop_bk, loop_ct, loop_ex, s_ok_, s_ex_, bind_ok_, bind_ex_, map_ok_, map_ex_, opt_some_, nox_ok_, gd_true_, exprS_, retS_, retFS_, setS_, setOS_, ifS_, forS_, opM_, varR_, asB_, truM_, notM_, andM_, orM_, call1_, lstE_, consM_, aV_, someM_, slM_, raiseM_, andV_, orV_, ifM_, rd_va, rd_ow, rd_pa, addD_int, subD_int, ltG_int, leG_int, gtG_int, geG_int, intD1_int, intD1_bl, absD_int, lenD_lst, lenD_lsx, lenD_tup, canC_no, canC_va, canC_ow, eqD_int, neD_int, eqD_str, neD_str, e_opV, e_varM, e_rdR, e_get0, e_getS, e_set0, e_setS, e_bind, e_cst, e_setM, e_setO, canSet_, e_tgN, e_tgT, e_tgsNil, e_tgsCons, e_asgM, e_parM, e_tupM, e_lstM, e_notV, e_negM, e_seqA, e_chainM, e_callF1, e_sm1M, e_enumM, e_getL, e_list_ow, e_list_pa, e_own_ow, e_own_pa, e_getO, e_setW, e_appendM, e_aO, e_callG, e_cells0, e_cellsV, e_cellsO, e_omap, e_slots0, e_slotsV, e_slotsO, e_nodup0, e_nodup1, e_toR_ok, e_toR_ex, e_toF_fr, e_toF_ex, e_backO, e_backV, e_back0, e_tru_int, e_tru_bl, e_stepC, e_range1M, e_augPutM, e_aug1, e_aug2, e_putL, e_revF, listF, tupD, e_wipe0, e_wipeS, e_rest0, e_restS, e_for0, e_nox, e_plain_no, e_plain_va, e_all0, e_allS, Bool.and_self, Bool.true_and, fin_nx, fin_rt, fin_rf, fin_ex, kpD_kpc, e_kpc0, e_kpcS, keepC_pa, keepC_va, keepC_ow, keepC_no, if_true, if_false, Bool.true_eq, Bool.false_eq_true, decide_true, List.length_cons, List.length_nil, and_self, Nat.reduceAdd, Nat.reduceSub, Nat.reduceLeDiff, Nat.reduceEqDiff, Int.reduceNeg, List.map_cons, List.map_nil, i0, j0, j1, h0, h1, Int.lt_irrefl, decide_false, c10, c11]
  | @high h h0 =>
    have i0 : ixD (.tup [pr (xy h)]) (.int 0) = some (pr (xy h)) := rfl
    have j1 : ixD (pr (xy h)) (.int 1) = some (.int (at_ 1 h)) := rfl
    simp only [sq_, seq_nx, seq_rt, seq_rf, seq_bk, seq_ct, seq_ex, loop_nx, loop_rt, loop_rf, loop_bk, loop_ct, loop_ex, s_ok_, s_ex_, bind_ok_, bind_ex_, map_ok_, map_ex_, opt_some_, nox_ok_, gd_true_, exprS_, retS_, retFS_, setS_, setOS_, ifS_, forS_, opM_, varR_, asB_, truM_, notM_, andM_, orM_, call1_, lstE_, consM_, aV_, someM_, slM_, raiseM_, andV_, orV_, ifM_, rd_va, rd_ow, rd_pa, addD_int, subD_int, ltG_int, leG_int, gtG_int, geG_int, intD1_int, intD1_bl, absD_int, lenD_lst, lenD_lsx, lenD_tup, canC_no, canC_va, canC_ow, eqD_int, neD_int, eqD_str, neD_str, e_opV, e_varM, e_rdR, e_get0, e_getS, e_set0, e_setS, e_bind, e_cst, e_setM, e_setO, canSet_, e_tgN, e_tgT, e_tgsNil, e_tgsCons, e_asgM, e_parM, e_tupM, e_lstM, e_notV, e_negM, e_seqA, e_chainM, e_callF1, e_sm1M, e_enumM, e_getL, e_list_ow, e_list_pa, e_own_ow, e_own_pa, e_getO, e_setW, e_appendM, e_aO, e_callG, e_cells0, e_cellsV, e_cellsO, e_omap, e_slots0, e_slotsV, e_slotsO, e_nodup0, e_nodup1, e_toR_ok, e_toR_ex, e_toF_fr, e_toF_ex, e_backO, e_backV, e_back0, e_tru_int, e_tru_bl, e_stepC, e_range1M, e_augPutM, e_aug1, e_aug2, e_putL, e_revF, listF, tupD, e_wipe0, e_wipeS, e_rest0, e_restS, e_for0, e_nox, e_plain_no, e_plain_va, e_all0, e_allS, Bool.and_self, Bool.true_and, fin_nx, fin_rt, fin_rf, fin_ex, kpD_kpc, e_kpc0, e_kpcS, keepC_pa, keepC_va, keepC_ow, keepC_no, if_true, if_false, Bool.true_eq, Bool.false_eq_true, decide_true, List.length_cons, List.length_nil, and_self, Nat.reduceAdd, Nat.reduceSub, Nat.reduceLeDiff, Nat.reduceEqDiff, Int.reduceNeg, List.map_cons, List.map_nil, i0, j1, h0, Int.lt_irrefl, decide_false, c10, c11]
  | @both l h h0 h1 h2 h3 h4 =>
    have j0 : ixD (pr (xy l)) (.int 0) = some (.int (at_ 0 l)) := rfl
    have j1 : ixD (pr (xy l)) (.int 1) = some (.int (at_ 1 l)) := rfl
    have k0 : ixD (pr (xy h)) (.int 0) = some (.int (at_ 0 h)) := rfl
    have k1 : ixD (pr (xy h)) (.int 1) = some (.int (at_ 1 h)) := rfl
    simp only [sq_, seq_nx, seq_rt, seq_rf, seq_bk, seq_ct, seq_ex, loop_nx, loop_rt, loop_rf, loop_bk, loop_ct, loop_ex, s_ok_, s_ex_, bind_ok_, bind_ex_, map_ok_, map_ex_, opt_some_, nox_ok_, gd_true_, exprS_, retS_, retFS_, setS_, setOS_, ifS_, forS_, opM_, varR_, asB_, truM_, notM_, andM_, orM_, call1_, lstE_, consM_, aV_, someM_, slM_, raiseM_, andV_, orV_, ifM_, rd_va, rd_ow, rd_pa, addD_int, subD_int, ltG_int, leG_int, gtG_int, geG_int, intD1_int, intD1_bl, absD_int, lenD_lst, lenD_lsx, lenD_tup, canC_no, canC_va, canC_ow, eqD_int, neD_int, eqD_str, neD_str, e_opV, e_varM, e_rdR, e_get0, e_getS, e_set0, e_setS, e_bind, e_cst, e_setM, e_setO, canSet_, e_tgN, e_tgT, e_tgsNil, e_tgsCons, e_asgM, e_parM, e_tupM, e_lstM, e_notV, e_negM, e_seqA, e_chainM, e_callF1, e_sm1M, e_enumM, e_getL, e_list_ow, e_list_pa, e_own_ow, e_own_pa, e_getO, e_setW, e_appendM, e_aO, e_callG, e_cells0, e_cellsV, e_cellsO, e_omap, e_slots0, e_slotsV, e_slotsO, e_nodup0, e_nodup1, e_toR_ok, e_toR_ex, e_toF_fr, e_toF_ex, e_backO, e_backV, e_back0, e_tru_int, e_tru_bl, e_stepC, e_range1M, e_augPutM, e_aug1, e_aug2, e_putL, e_revF, listF, tupD, e_wipe0, e_wipeS, e_rest0, e_restS, e_for0, e_nox, e_plain_no, e_plain_va, e_all0, e_allS, Bool.and_self, Bool.true_and, fin_nx, fin_rt, fin_rf, fin_ex, kpD_kpc, e_kpc0, e_kpcS, keepC_pa, keepC_va, keepC_ow, keepC_no, if_true, if_false, Bool.true_eq, Bool.false_eq_true, decide_true, List.length_cons, List.length_nil, and_self, Nat.reduceAdd, Nat.reduceSub, Nat.reduceLeDiff, Nat.reduceEqDiff, Int.reduceNeg, List.map_cons, List.map_nil, j0, j1, k0, k1, h0, h1, h2, h3, h4, Int.lt_irrefl, decide_false, c20, c21]
/-! ### draws of pairs, goals, a text -/
def Near (B : Nat) (ps : List (Int × Int)) : Prop := ∀ q ∈ ps, q.1.natAbs ≤ B ∧ q.2.natAbs ≤ B
theorem Near.app {B : Nat} {ps : List (Int × Int)} {q : Int × Int} (h : Near B ps) (hq : q.1.natAbs ≤ B ∧ q.2.natAbs ≤ B) : Near B (ps ++ [q]) := fun p hp => by
  rcases List.mem_append.mp hp with hp | hp
  · exact h p hp
  · rw [List.mem_singleton.mp hp]; exact hq
theorem rest_app (ps : List (Int × Int)) (q : Int × Int) : pairsD (ps ++ [q]) = pairsD ps ++ [pr q] := by
  show (ps ++ [q]).map pr = _
  rw [List.map_append]; rfl
abbrev P16 (c0 c1 c2 c3 c4 c5 c6 c7 c8 c9 c10 c11 c12 c13 c14 c15 : Cell) : DEnv := [c0, c1, c2, c3, c4, c5, c6, c7, c8, c9, c10, c11, c12, c13, c14, c15]
theorem draw_pairs (l : List Int) (c0 : Cell) : ∃ (ps : List (Int × Int)) (l' : List Int), ps.length ≤ 4 ∧ Near (6 * big.natAbs) ps ∧
    lcM [7] (range1M (callM F_law_take (aO 1 (aV (cst (D.int 5)) (cst ([] : List Arg)))))) (tgN 7) (cst true) (tupM (consM (callM F_law_numbers (aO 1 (aV (cst (D.int 6)) (cst ([] : List Arg))))) (consM (callM F_law_numbers (aO 1 (aV (cst (D.int 6)) (cst ([] : List Arg))))) (cst ([] : List D))))) (P16 c0 (.ow (l.map D.int)) .no .no .no .no .no .no .no .no .no .no .no .no .no .no) =
      .ok (pairsD ps) (P16 c0 (.ow (l'.map D.int)) .no .no .no .no .no .no .no .no .no .no .no .no .no .no) := by
  have t := take_fn l 5 (by omega)
  obtain ⟨n, hn, hlt⟩ := Cm.tk_lt l (m := 5) (by omega)
  rw [hn] at t
  have hr : ∀ Δ, rng1 (.int (n : Int)) Δ = .ok (rangeL 0 n) Δ := fun Δ => rng1_nat (by unfold lim62; omega)
  have hl : (rangeL 0 n).length = n := by simp [rangeL]
  obtain ⟨acc, Δ', e, ps, l', h1, h2, h3, h4⟩ := lcM_inv (vs := [7]) (mi := range1M (callM F_law_take (aO 1 (aV (cst (D.int 5)) (cst ([] : List Arg)))))) (tgt := tgN 7) (cond := cst true) (elt := tupM (consM (callM F_law_numbers (aO 1 (aV (cst (D.int 6)) (cst ([] : List Arg))))) (consM (callM F_law_numbers (aO 1 (aV (cst (D.int 6)) (cst ([] : List Arg))))) (cst ([] : List D)))))
    (Δ0 := P16 c0 (.ow (l.map D.int)) .no .no .no .no .no .no .no .no .no .no .no .no .no .no) (Δ := P16 c0 (.ow (l.dropLast.map D.int)) .no .no .no .no .no .no .no .no .no .no .no .no .no .no) (xs := rangeL 0 n)
    (fun k acc Δ => ∃ (ps : List (Int × Int)) (l' : List Int), acc = pairsD ps ∧ ps.length = k ∧ Near (6 * big.natAbs) ps ∧ Δ = P16 c0 (.ow (l'.map D.int)) .no .no .no .no .no .no .no .no .no .no .no .no .no .no)
    (by simp only [sq_, seq_nx, seq_rt, seq_rf, seq_bk, seq_ct, seq_ex, loop_nx, loop_rt, loop_rf, loop_bk, loop_ct, loop_ex, s_ok_, s_ex_, bind_ok_, bind_ex_, map_ok_, map_ex_, opt_some_, nox_ok_, gd_true_, exprS_, retS_, retFS_, setS_, setOS_, ifS_, forS_, opM_, varR_, asB_, truM_, notM_, andM_, orM_, call1_, lstE_, consM_, aV_, someM_, slM_, raiseM_, andV_, orV_, ifM_, rd_va, rd_ow, rd_pa, addD_int, subD_int, ltG_int, leG_int, gtG_int, geG_int, intD1_int, intD1_bl, absD_int, lenD_lst, lenD_lsx, lenD_tup, canC_no, canC_va, canC_ow, eqD_int, neD_int, eqD_str, neD_str, e_opV, e_varM, e_rdR, e_get0, e_getS, e_set0, e_setS, e_bind, e_cst, e_setM, e_setO, canSet_, e_tgN, e_tgT, e_tgsNil, e_tgsCons, e_asgM, e_parM, e_tupM, e_lstM, e_notV, e_negM, e_seqA, e_chainM, e_callF1, e_sm1M, e_enumM, e_getL, e_list_ow, e_list_pa, e_own_ow, e_own_pa, e_getO, e_setW, e_appendM, e_aO, e_callG, e_cells0, e_cellsV, e_cellsO, e_omap, e_slots0, e_slotsV, e_slotsO, e_nodup0, e_nodup1, e_toR_ok, e_toR_ex, e_toF_fr, e_toF_ex, e_backO, e_backV, e_back0, e_tru_int, e_tru_bl, e_stepC, e_range1M, e_augPutM, e_aug1, e_aug2, e_putL, e_revF, listF, tupD, e_wipe0, e_wipeS, e_rest0, e_restS, e_for0, e_nox, e_plain_no, e_plain_va, e_all0, e_allS, Bool.and_self, Bool.true_and, fin_nx, fin_rt, fin_rf, fin_ex, kpD_kpc, e_kpc0, e_kpcS, keepC_pa, keepC_va, keepC_ow, keepC_no, if_true, if_false, Bool.true_eq, Bool.false_eq_true, decide_true, List.length_cons, List.length_nil, and_self, Nat.reduceAdd, Nat.reduceSub, Nat.reduceLeDiff, Nat.reduceEqDiff, Int.reduceNeg, t, hr]) (by rw [hl]; omega) rfl ⟨[], l.dropLast, rfl, rfl, fun q hq => (by cases hq), rfl⟩ fun x hx k acc Δ ⟨ps, l', h1, h2, h3, h4⟩ => by
      subst h4
      obtain ⟨l1, v, hv, e1⟩ := numbers_fn l' (m := 6) (by omega)
      obtain ⟨l2, w, hw, e2⟩ := numbers_fn l1 (m := 6) (by omega)
      have e1 : F_law_numbers [.pa (l'.map D.int), .va (.int 6)] = .ok (.int v) [.pa (l1.map D.int), .no] := e1
      have e2 : F_law_numbers [.pa (l1.map D.int), .va (.int 6)] = .ok (.int w) [.pa (l2.map D.int), .no] := e2
      refine ⟨pr (v, w), P16 c0 (.ow (l2.map D.int)) .no .no .no .no .no .no .no .no .no .no .no .no .no .no, ?_, ps ++ [(v, w)], l2, by rw [h1, rest_app], by rw [List.length_append, h2]; rfl, h3.app ⟨hv, hw⟩, rfl⟩
      simp only [sq_, seq_nx, seq_rt, seq_rf, seq_bk, seq_ct, seq_ex, loop_nx, loop_rt, loop_rf, loop_bk, loop_ct, loop_ex, s_ok_, s_ex_, bind_ok_, bind_ex_, map_ok_, map_ex_, opt_some_, nox_ok_, gd_true_, exprS_, retS_, retFS_, setS_, setOS_, ifS_, forS_, opM_, varR_, asB_, truM_, notM_, andM_, orM_, call1_, lstE_, consM_, aV_, someM_, slM_, raiseM_, andV_, orV_, ifM_, rd_va, rd_ow, rd_pa, addD_int, subD_int, ltG_int, leG_int, gtG_int, geG_int, intD1_int, intD1_bl, absD_int, lenD_lst, lenD_lsx, lenD_tup, canC_no, canC_va, canC_ow, eqD_int, neD_int, eqD_str, neD_str, e_opV, e_varM, e_rdR, e_get0, e_getS, e_set0, e_setS, e_bind, e_cst, e_setM, e_setO, canSet_, e_tgN, e_tgT, e_tgsNil, e_tgsCons, e_asgM, e_parM, e_tupM, e_lstM, e_notV, e_negM, e_seqA, e_chainM, e_callF1, e_sm1M, e_enumM, e_getL, e_list_ow, e_list_pa, e_own_ow, e_own_pa, e_getO, e_setW, e_appendM, e_aO, e_callG, e_cells0, e_cellsV, e_cellsO, e_omap, e_slots0, e_slotsV, e_slotsO, e_nodup0, e_nodup1, e_toR_ok, e_toR_ex, e_toF_fr, e_toF_ex, e_backO, e_backV, e_back0, e_tru_int, e_tru_bl, e_stepC, e_range1M, e_augPutM, e_aug1, e_aug2, e_putL, e_revF, listF, tupD, e_wipe0, e_wipeS, e_rest0, e_restS, e_for0, e_nox, e_plain_no, e_plain_va, e_all0, e_allS, Bool.and_self, Bool.true_and, fin_nx, fin_rt, fin_rf, fin_ex, kpD_kpc, e_kpc0, e_kpcS, keepC_pa, keepC_va, keepC_ow, keepC_no, if_true, if_false, Bool.true_eq, Bool.false_eq_true, decide_true, List.length_cons, List.length_nil, and_self, Nat.reduceAdd, Nat.reduceSub, Nat.reduceLeDiff, Nat.reduceEqDiff, Int.reduceNeg, e1, e2]
  refine ⟨ps, l', by omega, h3, ?_⟩
  rw [e, h1, h4]
theorem draw_text (l : List Int) (c0 c2 c3 c4 c5 c6 c7 c8 c9 c10 c11 c12 c13 c14 c15 : Cell) (p7 : plainC (some c7) = true) (k7 : canC c7 = true) : ∃ (cs : List Nat) (l' : List Int), Lets cs ∧ cs.length ≤ 8 ∧
    lcM [7] (range1M (callM F_law_take (aO 1 (aV (cst (D.int 9)) (cst ([] : List Arg)))))) (tgN 7) (cst true) (opM ixD (cst (D.str "abAB")) (callM F_law_take (aO 1 (aV (cst (D.int 4)) (cst ([] : List Arg)))))) (P16 c0 (.ow (l.map D.int)) c2 c3 c4 c5 c6 c7 c8 c9 c10 c11 c12 c13 c14 c15) =
      .ok (cs.map chD) (P16 c0 (.ow (l'.map D.int)) c2 c3 c4 c5 c6 c7 c8 c9 c10 c11 c12 c13 c14 c15) := by
  have t := take_fn l 9 (by omega)
  obtain ⟨n, hn, hlt⟩ := Cm.tk_lt l (m := 9) (by omega)
  rw [hn] at t
  have hr : ∀ Δ, rng1 (.int (n : Int)) Δ = .ok (rangeL 0 n) Δ := fun Δ => rng1_nat (by unfold lim62; omega)
  have hl : (rangeL 0 n).length = n := by simp [rangeL]
  obtain ⟨acc, Δ', e, cs, l', h1, h2, h3, h4⟩ := lcM_inv (vs := [7]) (mi := range1M (callM F_law_take (aO 1 (aV (cst (D.int 9)) (cst ([] : List Arg)))))) (tgt := tgN 7) (cond := cst true) (elt := opM ixD (cst (D.str "abAB")) (callM F_law_take (aO 1 (aV (cst (D.int 4)) (cst ([] : List Arg))))))
    (Δ0 := P16 c0 (.ow (l.map D.int)) c2 c3 c4 c5 c6 c7 c8 c9 c10 c11 c12 c13 c14 c15) (Δ := P16 c0 (.ow (l.dropLast.map D.int)) c2 c3 c4 c5 c6 c7 c8 c9 c10 c11 c12 c13 c14 c15) (xs := rangeL 0 n)
    (fun k acc Δ => ∃ (cs : List Nat) (l' : List Int), acc = cs.map chD ∧ cs.length = k ∧ Lets cs ∧ Δ = P16 c0 (.ow (l'.map D.int)) c2 c3 c4 c5 c6 c7 c8 c9 c10 c11 c12 c13 c14 c15)
    (by simp only [sq_, seq_nx, seq_rt, seq_rf, seq_bk, seq_ct, seq_ex, loop_nx, loop_rt, loop_rf, loop_bk, loop_ct, loop_ex, s_ok_, s_ex_, bind_ok_, bind_ex_, map_ok_, map_ex_, opt_some_, nox_ok_, gd_true_, exprS_, retS_, retFS_, setS_, setOS_, ifS_, forS_, opM_, varR_, asB_, truM_, notM_, andM_, orM_, call1_, lstE_, consM_, aV_, someM_, slM_, raiseM_, andV_, orV_, ifM_, rd_va, rd_ow, rd_pa, addD_int, subD_int, ltG_int, leG_int, gtG_int, geG_int, intD1_int, intD1_bl, absD_int, lenD_lst, lenD_lsx, lenD_tup, canC_no, canC_va, canC_ow, eqD_int, neD_int, eqD_str, neD_str, e_opV, e_varM, e_rdR, e_get0, e_getS, e_set0, e_setS, e_bind, e_cst, e_setM, e_setO, canSet_, e_tgN, e_tgT, e_tgsNil, e_tgsCons, e_asgM, e_parM, e_tupM, e_lstM, e_notV, e_negM, e_seqA, e_chainM, e_callF1, e_sm1M, e_enumM, e_getL, e_list_ow, e_list_pa, e_own_ow, e_own_pa, e_getO, e_setW, e_appendM, e_aO, e_callG, e_cells0, e_cellsV, e_cellsO, e_omap, e_slots0, e_slotsV, e_slotsO, e_nodup0, e_nodup1, e_toR_ok, e_toR_ex, e_toF_fr, e_toF_ex, e_backO, e_backV, e_back0, e_tru_int, e_tru_bl, e_stepC, e_range1M, e_augPutM, e_aug1, e_aug2, e_putL, e_revF, listF, tupD, e_wipe0, e_wipeS, e_rest0, e_restS, e_for0, e_nox, e_plain_no, e_plain_va, e_all0, e_allS, Bool.and_self, Bool.true_and, fin_nx, fin_rt, fin_rf, fin_ex, kpD_kpc, e_kpc0, e_kpcS, keepC_pa, keepC_va, keepC_ow, keepC_no, if_true, if_false, Bool.true_eq, Bool.false_eq_true, decide_true, List.length_cons, List.length_nil, and_self, Nat.reduceAdd, Nat.reduceSub, Nat.reduceLeDiff, Nat.reduceEqDiff, Int.reduceNeg, t, hr]) (by rw [hl]; omega) (by simp only [sq_, seq_nx, seq_rt, seq_rf, seq_bk, seq_ct, seq_ex, loop_nx, loop_rt, loop_rf, loop_bk, loop_ct, loop_ex, s_ok_, s_ex_, bind_ok_, bind_ex_, map_ok_, map_ex_, opt_some_, nox_ok_, gd_true_, exprS_, retS_, retFS_, setS_, setOS_, ifS_, forS_, opM_, varR_, asB_, truM_, notM_, andM_, orM_, call1_, lstE_, consM_, aV_, someM_, slM_, raiseM_, andV_, orV_, ifM_, rd_va, rd_ow, rd_pa, addD_int, subD_int, ltG_int, leG_int, gtG_int, geG_int, intD1_int, intD1_bl, absD_int, lenD_lst, lenD_lsx, lenD_tup, canC_no, canC_va, canC_ow, eqD_int, neD_int, eqD_str, neD_str, e_opV, e_varM, e_rdR, e_get0, e_getS, e_set0, e_setS, e_bind, e_cst, e_setM, e_setO, canSet_, e_tgN, e_tgT, e_tgsNil, e_tgsCons, e_asgM, e_parM, e_tupM, e_lstM, e_notV, e_negM, e_seqA, e_chainM, e_callF1, e_sm1M, e_enumM, e_getL, e_list_ow, e_list_pa, e_own_ow, e_own_pa, e_getO, e_setW, e_appendM, e_aO, e_callG, e_cells0, e_cellsV, e_cellsO, e_omap, e_slots0, e_slotsV, e_slotsO, e_nodup0, e_nodup1, e_toR_ok, e_toR_ex, e_toF_fr, e_toF_ex, e_backO, e_backV, e_back0, e_tru_int, e_tru_bl, e_stepC, e_range1M, e_augPutM, e_aug1, e_aug2, e_putL, e_revF, listF, tupD, e_wipe0, e_wipeS, e_rest0, e_restS, e_for0, e_nox, e_plain_no, e_plain_va, e_all0, e_allS, Bool.and_self, Bool.true_and, fin_nx, fin_rt, fin_rf, fin_ex, kpD_kpc, e_kpc0, e_kpcS, keepC_pa, keepC_va, keepC_ow, keepC_no, if_true, if_false, Bool.true_eq, Bool.false_eq_true, decide_true, List.length_cons, List.length_nil, and_self, Nat.reduceAdd, Nat.reduceSub, Nat.reduceLeDiff, Nat.reduceEqDiff, Int.reduceNeg, p7]) ⟨[], l.dropLast, rfl, rfl, fun q hq => (by cases hq), rfl⟩ fun x hx k acc Δ ⟨cs, l', h1, h2, h3, h4⟩ => by
      subst h4
      have t4 := take_fn l' 4 (by omega)
      obtain ⟨m, hm, hlt⟩ := Cm.tk_lt l' (m := 4) (by omega)
      rw [hm] at t4
      have hc : ∃ c, (c = 97 ∨ c = 65 ∨ c = 98 ∨ c = 66) ∧ ixD (.str "abAB") (.int (m : Int)) = some (chD c) := by
        have : m = 0 ∨ m = 1 ∨ m = 2 ∨ m = 3 := by omega
        rcases this with rfl | rfl | rfl | rfl
        · exact ⟨97, by simp, rfl⟩
        · exact ⟨98, by simp, rfl⟩
        · exact ⟨65, by simp, rfl⟩
        · exact ⟨66, by simp, rfl⟩
      obtain ⟨c, hc1, hc2⟩ := hc
      refine ⟨chD c, P16 c0 (.ow (l'.dropLast.map D.int)) c2 c3 c4 c5 c6 c7 c8 c9 c10 c11 c12 c13 c14 c15, ?_, cs ++ [c], l'.dropLast, by rw [h1, List.map_append]; rfl, by rw [List.length_append, h2]; rfl, fun d hd => ?_, rfl⟩
      · simp only [sq_, seq_nx, seq_rt, seq_rf, seq_bk, seq_ct, seq_ex, loop_nx, loop_rt, loop_rf, loop_bk, loop_ct, loop_ex, s_ok_, s_ex_, bind_ok_, bind_ex_, map_ok_, map_ex_, opt_some_, nox_ok_, gd_true_, exprS_, retS_, retFS_, setS_, setOS_, ifS_, forS_, opM_, varR_, asB_, truM_, notM_, andM_, orM_, call1_, lstE_, consM_, aV_, someM_, slM_, raiseM_, andV_, orV_, ifM_, rd_va, rd_ow, rd_pa, addD_int, subD_int, ltG_int, leG_int, gtG_int, geG_int, intD1_int, intD1_bl, absD_int, lenD_lst, lenD_lsx, lenD_tup, canC_no, canC_va, canC_ow, eqD_int, neD_int, eqD_str, neD_str, e_opV, e_varM, e_rdR, e_get0, e_getS, e_set0, e_setS, e_bind, e_cst, e_setM, e_setO, canSet_, e_tgN, e_tgT, e_tgsNil, e_tgsCons, e_asgM, e_parM, e_tupM, e_lstM, e_notV, e_negM, e_seqA, e_chainM, e_callF1, e_sm1M, e_enumM, e_getL, e_list_ow, e_list_pa, e_own_ow, e_own_pa, e_getO, e_setW, e_appendM, e_aO, e_callG, e_cells0, e_cellsV, e_cellsO, e_omap, e_slots0, e_slotsV, e_slotsO, e_nodup0, e_nodup1, e_toR_ok, e_toR_ex, e_toF_fr, e_toF_ex, e_backO, e_backV, e_back0, e_tru_int, e_tru_bl, e_stepC, e_range1M, e_augPutM, e_aug1, e_aug2, e_putL, e_revF, listF, tupD, e_wipe0, e_wipeS, e_rest0, e_restS, e_for0, e_nox, e_plain_no, e_plain_va, e_all0, e_allS, Bool.and_self, Bool.true_and, fin_nx, fin_rt, fin_rf, fin_ex, kpD_kpc, e_kpc0, e_kpcS, keepC_pa, keepC_va, keepC_ow, keepC_no, if_true, if_false, Bool.true_eq, Bool.false_eq_true, decide_true, List.length_cons, List.length_nil, and_self, Nat.reduceAdd, Nat.reduceSub, Nat.reduceLeDiff, Nat.reduceEqDiff, Int.reduceNeg, t4, hc2, k7]
      · rcases List.mem_append.mp hd with hd | hd
        · exact h3 d hd
        · rw [List.mem_singleton.mp hd]; exact hc1
  refine ⟨cs, l', h3, by omega, ?_⟩
  rw [e, h1, h4]
end K77
end KL
set_option exponentiation.threshold 100000
/-! k77: the law's goals. -/
namespace KL
namespace K77
open PySem L2
theorem plain_can {c : Cell} (h : plainC (some c) = true) : canC c = true := by
  cases c with
  | pav _ => cases h
  | _ => rfl
section
variable {c0 c2 c3 c4 c7 c10 c11 c12 c13 c14 : Cell}
theorem goal_turn {q : Int × Int} {x y : Int} {gs : List (Int × Int)} {l : List Int} {B : Nat} {c9 : Cell} (hq : q.1.natAbs ≤ 6 * big.natAbs ∧ q.2.natAbs ≤ 6 * big.natAbs) (hx : x.natAbs ≤ B ∧ y.natAbs ≤ B) (hB : B < 2 ^ 100) (k9 : canC c9 = true) :
    ∃ (x' y' t : Int) (l' : List Int), (x'.natAbs ≤ B + 18 * big.natAbs ∧ y'.natAbs ≤ B + 18 * big.natAbs) ∧ law_b3 (P16 c0 (.ow (l.map D.int)) c2 c3 c4 (.va (pr q)) (.ow (pairsD gs)) c7 (.ow [.int x, .int y]) c9 c10 c11 c12 c13 c14 .no) =
      .nx (P16 c0 (.ow (l'.map D.int)) c2 c3 c4 (.va (pr q)) (.ow (pairsD gs)) c7 (.ow [.int x', .int y']) (.va (.int t)) c10 c11 c12 c13 c14 .no) := by
  have t := take_fn l 7 (by omega)
  obtain ⟨n, hn, hlt⟩ := Cm.tk_lt l (m := 7) (by omega)
  rw [hn] at t
  have hb : big.natAbs = 1000000000039 := rfl
  rw [hb] at hq
  have md := modG_int (i := ((pairsD gs).length : Int)) (j := 2) (by omega)
  generalize hee : (if decide (((pairsD gs).length : Int).fmod 2 = 1) = true then (1 : Int) else 0) = e
  have he : e = 0 ∨ e = 1 := by rw [← hee]; split <;> simp
  have r2 : ∀ Δ, rng1 (.int 2) Δ = .ok ([(0 : Int), 1].map D.int) Δ := fun Δ => rng1_nat (e := 2) (by unfold lim62; omega)
  refine ⟨x * e + q.1 * ((n : Int) - 3), y * e + q.2 * ((n : Int) - 3), (n : Int) - 3, l.dropLast, ?_, ?_⟩
  · have h3 : ((n : Int) - 3).natAbs ≤ 3 := by omega
    have h1 : (q.1 * ((n : Int) - 3)).natAbs ≤ 6 * 1000000000039 * 3 := by rw [Int.natAbs_mul]; exact Nat.mul_le_mul hq.1 h3
    have h2 : (q.2 * ((n : Int) - 3)).natAbs ≤ 6 * 1000000000039 * 3 := by rw [Int.natAbs_mul]; exact Nat.mul_le_mul hq.2 h3
    rw [hb]
    rcases he with rfl | rfl <;> omega
  · have m1 : ∀ z : Int, z.natAbs ≤ B → mulG (.int z) (.int e) = some (.int (z * e)) := fun z hz => mulG_int (a := 100) (b := 1) (by omega) (by rcases he with rfl | rfl <;> decide) (by omega)
    have m2 : ∀ z : Int, z.natAbs ≤ 6 * 1000000000039 → mulG (.int z) (.int ((n : Int) - 3)) = some (.int (z * ((n : Int) - 3))) := fun z hz => mulG_int (a := 50) (b := 10) (by omega) (by omega) (by omega)
    have mx := m1 x hx.1
    have my := m1 y hx.2
    have nx := m2 q.1 hq.1
    have ny := m2 q.2 hq.2
    have i0 : ixD (.lst [.int x, .int y]) (.int 0) = some (.int x) := rfl
    have i1 : ixD (.lst [.int x, .int y]) (.int 1) = some (.int y) := rfl
    have j0 : ixD (pr q) (.int 0) = some (.int q.1) := rfl
    have j1 : ixD (pr q) (.int 1) = some (.int q.2) := rfl
    unfold law_b3
    simp only [sq_, seq_nx, seq_rt, seq_rf, seq_bk, seq_ct, seq_ex, loop_nx, loop_rt, loop_rf, loop_bk, loop_ct, loop_ex, s_ok_, s_ex_, bind_ok_, bind_ex_, map_ok_, map_ex_, opt_some_, nox_ok_, gd_true_, exprS_, retS_, retFS_, setS_, setOS_, ifS_, forS_, opM_, varR_, asB_, truM_, notM_, andM_, orM_, call1_, lstE_, consM_, aV_, someM_, slM_, raiseM_, andV_, orV_, ifM_, rd_va, rd_ow, rd_pa, addD_int, subD_int, ltG_int, leG_int, gtG_int, geG_int, intD1_int, intD1_bl, absD_int, lenD_lst, lenD_lsx, lenD_tup, canC_no, canC_va, canC_ow, eqD_int, neD_int, eqD_str, neD_str, e_opV, e_varM, e_rdR, e_get0, e_getS, e_set0, e_setS, e_bind, e_cst, e_setM, e_setO, canSet_, e_tgN, e_tgT, e_tgsNil, e_tgsCons, e_asgM, e_parM, e_tupM, e_lstM, e_notV, e_negM, e_seqA, e_chainM, e_callF1, e_sm1M, e_enumM, e_getL, e_list_ow, e_list_pa, e_own_ow, e_own_pa, e_getO, e_setW, e_appendM, e_aO, e_callG, e_cells0, e_cellsV, e_cellsO, e_omap, e_slots0, e_slotsV, e_slotsO, e_nodup0, e_nodup1, e_toR_ok, e_toR_ex, e_toF_fr, e_toF_ex, e_backO, e_backV, e_back0, e_tru_int, e_tru_bl, e_stepC, e_range1M, e_augPutM, e_aug1, e_aug2, e_putL, e_revF, listF, tupD, e_wipe0, e_wipeS, e_rest0, e_restS, e_for0, e_nox, e_plain_no, e_plain_va, e_all0, e_allS, Bool.and_self, Bool.true_and, fin_nx, fin_rt, fin_rf, fin_ex, kpD_kpc, e_kpc0, e_kpcS, keepC_pa, keepC_va, keepC_ow, keepC_no, if_true, if_false, Bool.true_eq, Bool.false_eq_true, decide_true, List.length_cons, List.length_nil, and_self, Nat.reduceAdd, Nat.reduceSub, Nat.reduceLeDiff, Nat.reduceEqDiff, Int.reduceNeg, t, k9]
    rw [lcM_m D.int (fun i => if i = 0 then .int (x * e + q.1 * ((n : Int) - 3)) else .int (y * e + q.2 * ((n : Int) - 3))) (xs := [0, 1]) (Δ := P16 c0 (.ow (l.dropLast.map D.int)) c2 c3 c4 (.va (pr q)) (.ow (pairsD gs)) c7 (.ow [.int x, .int y]) (.va (.int ((n : Int) - 3))) c10 c11 c12 c13 c14 .no) (hi := by simp only [sq_, seq_nx, seq_rt, seq_rf, seq_bk, seq_ct, seq_ex, loop_nx, loop_rt, loop_rf, loop_bk, loop_ct, loop_ex, s_ok_, s_ex_, bind_ok_, bind_ex_, map_ok_, map_ex_, opt_some_, nox_ok_, gd_true_, exprS_, retS_, retFS_, setS_, setOS_, ifS_, forS_, opM_, varR_, asB_, truM_, notM_, andM_, orM_, call1_, lstE_, consM_, aV_, someM_, slM_, raiseM_, andV_, orV_, ifM_, rd_va, rd_ow, rd_pa, addD_int, subD_int, ltG_int, leG_int, gtG_int, geG_int, intD1_int, intD1_bl, absD_int, lenD_lst, lenD_lsx, lenD_tup, canC_no, canC_va, canC_ow, eqD_int, neD_int, eqD_str, neD_str, e_opV, e_varM, e_rdR, e_get0, e_getS, e_set0, e_setS, e_bind, e_cst, e_setM, e_setO, canSet_, e_tgN, e_tgT, e_tgsNil, e_tgsCons, e_asgM, e_parM, e_tupM, e_lstM, e_notV, e_negM, e_seqA, e_chainM, e_callF1, e_sm1M, e_enumM, e_getL, e_list_ow, e_list_pa, e_own_ow, e_own_pa, e_getO, e_setW, e_appendM, e_aO, e_callG, e_cells0, e_cellsV, e_cellsO, e_omap, e_slots0, e_slotsV, e_slotsO, e_nodup0, e_nodup1, e_toR_ok, e_toR_ex, e_toF_fr, e_toF_ex, e_backO, e_backV, e_back0, e_tru_int, e_tru_bl, e_stepC, e_range1M, e_augPutM, e_aug1, e_aug2, e_putL, e_revF, listF, tupD, e_wipe0, e_wipeS, e_rest0, e_restS, e_for0, e_nox, e_plain_no, e_plain_va, e_all0, e_allS, Bool.and_self, Bool.true_and, fin_nx, fin_rt, fin_rf, fin_ex, kpD_kpc, e_kpc0, e_kpcS, keepC_pa, keepC_va, keepC_ow, keepC_no, if_true, if_false, Bool.true_eq, Bool.false_eq_true, decide_true, List.length_cons, List.length_nil, and_self, Nat.reduceAdd, Nat.reduceSub, Nat.reduceLeDiff, Nat.reduceEqDiff, Int.reduceNeg, r2]) (hl := by simp) (hp := rfl) (h := fun i hi => ?_)]
    · simp only [sq_, seq_nx, seq_rt, seq_rf, seq_bk, seq_ct, seq_ex, loop_nx, loop_rt, loop_rf, loop_bk, loop_ct, loop_ex, s_ok_, s_ex_, bind_ok_, bind_ex_, map_ok_, map_ex_, opt_some_, nox_ok_, gd_true_, exprS_, retS_, retFS_, setS_, setOS_, ifS_, forS_, opM_, varR_, asB_, truM_, notM_, andM_, orM_, call1_, lstE_, consM_, aV_, someM_, slM_, raiseM_, andV_, orV_, ifM_, rd_va, rd_ow, rd_pa, addD_int, subD_int, ltG_int, leG_int, gtG_int, geG_int, intD1_int, intD1_bl, absD_int, lenD_lst, lenD_lsx, lenD_tup, canC_no, canC_va, canC_ow, eqD_int, neD_int, eqD_str, neD_str, e_opV, e_varM, e_rdR, e_get0, e_getS, e_set0, e_setS, e_bind, e_cst, e_setM, e_setO, canSet_, e_tgN, e_tgT, e_tgsNil, e_tgsCons, e_asgM, e_parM, e_tupM, e_lstM, e_notV, e_negM, e_seqA, e_chainM, e_callF1, e_sm1M, e_enumM, e_getL, e_list_ow, e_list_pa, e_own_ow, e_own_pa, e_getO, e_setW, e_appendM, e_aO, e_callG, e_cells0, e_cellsV, e_cellsO, e_omap, e_slots0, e_slotsV, e_slotsO, e_nodup0, e_nodup1, e_toR_ok, e_toR_ex, e_toF_fr, e_toF_ex, e_backO, e_backV, e_back0, e_tru_int, e_tru_bl, e_stepC, e_range1M, e_augPutM, e_aug1, e_aug2, e_putL, e_revF, listF, tupD, e_wipe0, e_wipeS, e_rest0, e_restS, e_for0, e_nox, e_plain_no, e_plain_va, e_all0, e_allS, Bool.and_self, Bool.true_and, fin_nx, fin_rt, fin_rf, fin_ex, kpD_kpc, e_kpc0, e_kpcS, keepC_pa, keepC_va, keepC_ow, keepC_no, if_true, if_false, Bool.true_eq, Bool.false_eq_true, decide_true, List.length_cons, List.length_nil, and_self, Nat.reduceAdd, Nat.reduceSub, Nat.reduceLeDiff, Nat.reduceEqDiff, Int.reduceNeg]; rfl
    · have hi : i = 0 ∨ i = 1 := by simpa using hi
      rcases hi with rfl | rfl
      · simp only [sq_, seq_nx, seq_rt, seq_rf, seq_bk, seq_ct, seq_ex, loop_nx, loop_rt, loop_rf, loop_bk, loop_ct, loop_ex, s_ok_, s_ex_, bind_ok_, bind_ex_, map_ok_, map_ex_, opt_some_, nox_ok_, gd_true_, exprS_, retS_, retFS_, setS_, setOS_, ifS_, forS_, opM_, varR_, asB_, truM_, notM_, andM_, orM_, call1_, lstE_, consM_, aV_, someM_, slM_, raiseM_, andV_, orV_, ifM_, rd_va, rd_ow, rd_pa, addD_int, subD_int, ltG_int, leG_int, gtG_int, geG_int, intD1_int, intD1_bl, absD_int, lenD_lst, lenD_lsx, lenD_tup, canC_no, canC_va, canC_ow, eqD_int, neD_int, eqD_str, neD_str, e_opV, e_varM, e_rdR, e_get0, e_getS, e_set0, e_setS, e_bind, e_cst, e_setM, e_setO, canSet_, e_tgN, e_tgT, e_tgsNil, e_tgsCons, e_asgM, e_parM, e_tupM, e_lstM, e_notV, e_negM, e_seqA, e_chainM, e_callF1, e_sm1M, e_enumM, e_getL, e_list_ow, e_list_pa, e_own_ow, e_own_pa, e_getO, e_setW, e_appendM, e_aO, e_callG, e_cells0, e_cellsV, e_cellsO, e_omap, e_slots0, e_slotsV, e_slotsO, e_nodup0, e_nodup1, e_toR_ok, e_toR_ex, e_toF_fr, e_toF_ex, e_backO, e_backV, e_back0, e_tru_int, e_tru_bl, e_stepC, e_range1M, e_augPutM, e_aug1, e_aug2, e_putL, e_revF, listF, tupD, e_wipe0, e_wipeS, e_rest0, e_restS, e_for0, e_nox, e_plain_no, e_plain_va, e_all0, e_allS, Bool.and_self, Bool.true_and, fin_nx, fin_rt, fin_rf, fin_ex, kpD_kpc, e_kpc0, e_kpcS, keepC_pa, keepC_va, keepC_ow, keepC_no, if_true, if_false, Bool.true_eq, Bool.false_eq_true, decide_true, List.length_cons, List.length_nil, and_self, Nat.reduceAdd, Nat.reduceSub, Nat.reduceLeDiff, Nat.reduceEqDiff, Int.reduceNeg, i0, j0, md, hee, mx, nx]
      · simp only [sq_, seq_nx, seq_rt, seq_rf, seq_bk, seq_ct, seq_ex, loop_nx, loop_rt, loop_rf, loop_bk, loop_ct, loop_ex, s_ok_, s_ex_, bind_ok_, bind_ex_, map_ok_, map_ex_, opt_some_, nox_ok_, gd_true_, exprS_, retS_, retFS_, setS_, setOS_, ifS_, forS_, opM_, varR_, asB_, truM_, notM_, andM_, orM_, call1_, lstE_, consM_, aV_, someM_, slM_, raiseM_, andV_, orV_, ifM_, rd_va, rd_ow, rd_pa, addD_int, subD_int, ltG_int, leG_int, gtG_int, geG_int, intD1_int, intD1_bl, absD_int, lenD_lst, lenD_lsx, lenD_tup, canC_no, canC_va, canC_ow, eqD_int, neD_int, eqD_str, neD_str, e_opV, e_varM, e_rdR, e_get0, e_getS, e_set0, e_setS, e_bind, e_cst, e_setM, e_setO, canSet_, e_tgN, e_tgT, e_tgsNil, e_tgsCons, e_asgM, e_parM, e_tupM, e_lstM, e_notV, e_negM, e_seqA, e_chainM, e_callF1, e_sm1M, e_enumM, e_getL, e_list_ow, e_list_pa, e_own_ow, e_own_pa, e_getO, e_setW, e_appendM, e_aO, e_callG, e_cells0, e_cellsV, e_cellsO, e_omap, e_slots0, e_slotsV, e_slotsO, e_nodup0, e_nodup1, e_toR_ok, e_toR_ex, e_toF_fr, e_toF_ex, e_backO, e_backV, e_back0, e_tru_int, e_tru_bl, e_stepC, e_range1M, e_augPutM, e_aug1, e_aug2, e_putL, e_revF, listF, tupD, e_wipe0, e_wipeS, e_rest0, e_restS, e_for0, e_nox, e_plain_no, e_plain_va, e_all0, e_allS, Bool.and_self, Bool.true_and, fin_nx, fin_rt, fin_rf, fin_ex, kpD_kpc, e_kpc0, e_kpcS, keepC_pa, keepC_va, keepC_ow, keepC_no, if_true, if_false, Bool.true_eq, Bool.false_eq_true, decide_true, List.length_cons, List.length_nil, and_self, Nat.reduceAdd, Nat.reduceSub, Nat.reduceLeDiff, Nat.reduceEqDiff, Int.reduceNeg, i1, j1, md, hee, my, ny, Int.reduceEq]
theorem goal_loop {gs : List (Int × Int)} : ∀ (ps : List (Int × Int)) (x y : Int) (l : List Int) (B : Nat) (c5 c9 : Cell), Near (6 * big.natAbs) ps → x.natAbs ≤ B ∧ y.natAbs ≤ B → B + 18 * big.natAbs * ps.length < 2 ^ 100 → plainC (some c5) = true → plainC (some c9) = true →
    ∃ (x' y' : Int) (l' : List Int) (d5 d9 : Cell), (x'.natAbs ≤ B + 18 * big.natAbs * ps.length ∧ y'.natAbs ≤ B + 18 * big.natAbs * ps.length) ∧ plainC (some d5) = true ∧ plainC (some d9) = true ∧ forM (tgN 5) law_b3 (pairsD ps) (P16 c0 (.ow (l.map D.int)) c2 c3 c4 c5 (.ow (pairsD gs)) c7 (.ow [.int x, .int y]) c9 c10 c11 c12 c13 c14 .no) =
      .nx (P16 c0 (.ow (l'.map D.int)) c2 c3 c4 d5 (.ow (pairsD gs)) c7 (.ow [.int x', .int y']) d9 c10 c11 c12 c13 c14 .no)
  | [], x, y, l, B, c5, c9, _, hx, _, k5, k9 => ⟨x, y, l, c5, c9, hx, k5, k9, rfl⟩
  | q :: ps, x, y, l, B, c5, c9, hn, hx, hB, k5, k9 => by
    rw [List.length_cons, Nat.mul_succ] at hB
    have kk5 := plain_can k5
    have kk9 := plain_can k9
    obtain ⟨x1, y1, t, l1, h1, e1⟩ := goal_turn (c0 := c0) (c2 := c2) (c3 := c3) (c4 := c4) (c7 := c7) (c10 := c10) (c11 := c11) (c12 := c12) (c13 := c13) (c14 := c14) (gs := gs) (l := l) (hn q (by simp)) hx (by omega) kk9
    obtain ⟨x2, y2, l2, d5, d9, h2, k5', k9', e2⟩ := goal_loop (gs := gs) ps x1 y1 l1 (B + 18 * big.natAbs) (.va (pr q)) (.va (.int t)) (fun p hp => hn p (by simp [hp])) h1 (by omega) rfl rfl
    refine ⟨x2, y2, l2, d5, d9, ?_, k5', k9', ?_⟩
    · rw [List.length_cons, Nat.mul_succ]; omega
    · show forM (tgN 5) law_b3 (pr q :: pairsD ps) _ = _
      rw [e_forS]
      simp only [sq_, seq_nx, seq_rt, seq_rf, seq_bk, seq_ct, seq_ex, loop_nx, loop_rt, loop_rf, loop_bk, loop_ct, loop_ex, s_ok_, s_ex_, bind_ok_, bind_ex_, map_ok_, map_ex_, opt_some_, nox_ok_, gd_true_, exprS_, retS_, retFS_, setS_, setOS_, ifS_, forS_, opM_, varR_, asB_, truM_, notM_, andM_, orM_, call1_, lstE_, consM_, aV_, someM_, slM_, raiseM_, andV_, orV_, ifM_, rd_va, rd_ow, rd_pa, addD_int, subD_int, ltG_int, leG_int, gtG_int, geG_int, intD1_int, intD1_bl, absD_int, lenD_lst, lenD_lsx, lenD_tup, canC_no, canC_va, canC_ow, eqD_int, neD_int, eqD_str, neD_str, e_opV, e_varM, e_rdR, e_get0, e_getS, e_set0, e_setS, e_bind, e_cst, e_setM, e_setO, canSet_, e_tgN, e_tgT, e_tgsNil, e_tgsCons, e_asgM, e_parM, e_tupM, e_lstM, e_notV, e_negM, e_seqA, e_chainM, e_callF1, e_sm1M, e_enumM, e_getL, e_list_ow, e_list_pa, e_own_ow, e_own_pa, e_getO, e_setW, e_appendM, e_aO, e_callG, e_cells0, e_cellsV, e_cellsO, e_omap, e_slots0, e_slotsV, e_slotsO, e_nodup0, e_nodup1, e_toR_ok, e_toR_ex, e_toF_fr, e_toF_ex, e_backO, e_backV, e_back0, e_tru_int, e_tru_bl, e_stepC, e_range1M, e_augPutM, e_aug1, e_aug2, e_putL, e_revF, listF, tupD, e_wipe0, e_wipeS, e_rest0, e_restS, e_for0, e_nox, e_plain_no, e_plain_va, e_all0, e_allS, Bool.and_self, Bool.true_and, fin_nx, fin_rt, fin_rf, fin_ex, kpD_kpc, e_kpc0, e_kpcS, keepC_pa, keepC_va, keepC_ow, keepC_no, if_true, if_false, Bool.true_eq, Bool.false_eq_true, decide_true, List.length_cons, List.length_nil, and_self, Nat.reduceAdd, Nat.reduceSub, Nat.reduceLeDiff, Nat.reduceEqDiff, Int.reduceNeg, kk5, e1, e2]
theorem goal_b4 {ps gs : List (Int × Int)} {l : List Int} {c5 c8 c9 : Cell} (hn : Near (6 * big.natAbs) ps) (hl : ps.length ≤ 4) (hg : Near (100 * big.natAbs) gs) (hgl : gs.length < 1000) (k5 : plainC (some c5) = true) (k8 : canC c8 = true) (k9 : plainC (some c9) = true) :
    ∃ (g : Int × Int) (l' : List Int) (d5 d8 d9 : Cell), Near (100 * big.natAbs) (gs ++ [g]) ∧ plainC (some d5) = true ∧ canC d8 = true ∧ plainC (some d9) = true ∧ law_b4 (P16 c0 (.ow (l.map D.int)) (.va (.lst (pairsD ps))) c3 c4 c5 (.ow (pairsD gs)) c7 c8 c9 c10 c11 c12 c13 c14 .no) =
      .nx (P16 c0 (.ow (l'.map D.int)) (.va (.lst (pairsD ps))) c3 c4 d5 (.ow (pairsD (gs ++ [g]))) c7 d8 d9 c10 c11 c12 c13 c14 .no) := by
  obtain ⟨l1, v, hv, e1⟩ := numbers_fn l (m := 8) (by omega)
  obtain ⟨l2, w, hw, e2⟩ := numbers_fn l1 (m := 8) (by omega)
  have e1 : F_law_numbers [.pa (l.map D.int), .va (.int 8)] = .ok (.int v) [.pa (l1.map D.int), .no] := e1
  have e2 : F_law_numbers [.pa (l1.map D.int), .va (.int 8)] = .ok (.int w) [.pa (l2.map D.int), .no] := e2
  have t := take_fn l2 2 (by omega)
  have hb : big.natAbs = 1000000000039 := rfl
  have hgd : (pairsD gs).length < 16777216 := by rw [List.length_map]; omega
  by_cases h0 : Cm.tk l2 2 = 0
  · obtain ⟨x, y, l3, d5, d9, hxy, m5, m9, e3⟩ := goal_loop (c0 := c0) (c2 := .va (.lst (pairsD ps))) (c3 := c3) (c4 := c4) (c7 := c7) (c10 := c10) (c11 := c11) (c12 := c12) (c13 := c13) (c14 := c14) (gs := gs) ps v w l2.dropLast (8 * big.natAbs) c5 c9 hn ⟨hv, hw⟩ (by
      have : 18 * big.natAbs * ps.length ≤ 18 * big.natAbs * 4 := Nat.mul_le_mul_left _ hl
      rw [hb] at *; omega) k5 k9
    refine ⟨(x, y), l3, d5, .ow [.int x, .int y], d9, hg.app ?_, m5, rfl, m9, ?_⟩
    · have : 18 * big.natAbs * ps.length ≤ 18 * big.natAbs * 4 := Nat.mul_le_mul_left _ hl
      show x.natAbs ≤ _ ∧ y.natAbs ≤ _
      omega
    · unfold law_b4
      simp only [sq_, seq_nx, seq_rt, seq_rf, seq_bk, seq_ct, seq_ex, loop_nx, loop_rt, loop_rf, loop_bk, loop_ct, loop_ex, s_ok_, s_ex_, bind_ok_, bind_ex_, map_ok_, map_ex_, opt_some_, nox_ok_, gd_true_, exprS_, retS_, retFS_, setS_, setOS_, ifS_, forS_, opM_, varR_, asB_, truM_, notM_, andM_, orM_, call1_, lstE_, consM_, aV_, someM_, slM_, raiseM_, andV_, orV_, ifM_, rd_va, rd_ow, rd_pa, addD_int, subD_int, ltG_int, leG_int, gtG_int, geG_int, intD1_int, intD1_bl, absD_int, lenD_lst, lenD_lsx, lenD_tup, canC_no, canC_va, canC_ow, eqD_int, neD_int, eqD_str, neD_str, e_opV, e_varM, e_rdR, e_get0, e_getS, e_set0, e_setS, e_bind, e_cst, e_setM, e_setO, canSet_, e_tgN, e_tgT, e_tgsNil, e_tgsCons, e_asgM, e_parM, e_tupM, e_lstM, e_notV, e_negM, e_seqA, e_chainM, e_callF1, e_sm1M, e_enumM, e_getL, e_list_ow, e_list_pa, e_own_ow, e_own_pa, e_getO, e_setW, e_appendM, e_aO, e_callG, e_cells0, e_cellsV, e_cellsO, e_omap, e_slots0, e_slotsV, e_slotsO, e_nodup0, e_nodup1, e_toR_ok, e_toR_ex, e_toF_fr, e_toF_ex, e_backO, e_backV, e_back0, e_tru_int, e_tru_bl, e_stepC, e_range1M, e_augPutM, e_aug1, e_aug2, e_putL, e_revF, listF, tupD, e_wipe0, e_wipeS, e_rest0, e_restS, e_for0, e_nox, e_plain_no, e_plain_va, e_all0, e_allS, Bool.and_self, Bool.true_and, fin_nx, fin_rt, fin_rf, fin_ex, kpD_kpc, e_kpc0, e_kpcS, keepC_pa, keepC_va, keepC_ow, keepC_no, if_true, if_false, Bool.true_eq, Bool.false_eq_true, decide_true, List.length_cons, List.length_nil, and_self, Nat.reduceAdd, Nat.reduceSub, Nat.reduceLeDiff, Nat.reduceEqDiff, Int.reduceNeg, e1, e2, t, h0, k8, e3, hgd, rest_app]
  · refine ⟨(v, w), l2.dropLast, c5, .ow [.int v, .int w], c9, hg.app ?_, k5, rfl, k9, ?_⟩
    · show v.natAbs ≤ _ ∧ w.natAbs ≤ _
      omega
    · unfold law_b4
      simp only [sq_, seq_nx, seq_rt, seq_rf, seq_bk, seq_ct, seq_ex, loop_nx, loop_rt, loop_rf, loop_bk, loop_ct, loop_ex, s_ok_, s_ex_, bind_ok_, bind_ex_, map_ok_, map_ex_, opt_some_, nox_ok_, gd_true_, exprS_, retS_, retFS_, setS_, setOS_, ifS_, forS_, opM_, varR_, asB_, truM_, notM_, andM_, orM_, call1_, lstE_, consM_, aV_, someM_, slM_, raiseM_, andV_, orV_, ifM_, rd_va, rd_ow, rd_pa, addD_int, subD_int, ltG_int, leG_int, gtG_int, geG_int, intD1_int, intD1_bl, absD_int, lenD_lst, lenD_lsx, lenD_tup, canC_no, canC_va, canC_ow, eqD_int, neD_int, eqD_str, neD_str, e_opV, e_varM, e_rdR, e_get0, e_getS, e_set0, e_setS, e_bind, e_cst, e_setM, e_setO, canSet_, e_tgN, e_tgT, e_tgsNil, e_tgsCons, e_asgM, e_parM, e_tupM, e_lstM, e_notV, e_negM, e_seqA, e_chainM, e_callF1, e_sm1M, e_enumM, e_getL, e_list_ow, e_list_pa, e_own_ow, e_own_pa, e_getO, e_setW, e_appendM, e_aO, e_callG, e_cells0, e_cellsV, e_cellsO, e_omap, e_slots0, e_slotsV, e_slotsO, e_nodup0, e_nodup1, e_toR_ok, e_toR_ex, e_toF_fr, e_toF_ex, e_backO, e_backV, e_back0, e_tru_int, e_tru_bl, e_stepC, e_range1M, e_augPutM, e_aug1, e_aug2, e_putL, e_revF, listF, tupD, e_wipe0, e_wipeS, e_rest0, e_restS, e_for0, e_nox, e_plain_no, e_plain_va, e_all0, e_allS, Bool.and_self, Bool.true_and, fin_nx, fin_rt, fin_rf, fin_ex, kpD_kpc, e_kpc0, e_kpcS, keepC_pa, keepC_va, keepC_ow, keepC_no, if_true, if_false, Bool.true_eq, Bool.false_eq_true, decide_true, List.length_cons, List.length_nil, and_self, Nat.reduceAdd, Nat.reduceSub, Nat.reduceLeDiff, Nat.reduceEqDiff, Int.reduceNeg, e1, e2, t, h0, decide_false, k8, hgd, rest_app]
theorem draw_goals {ps : List (Int × Int)} (hn : Near (6 * big.natAbs) ps) (hl : ps.length ≤ 4) (l : List Int) {c5 c7 : Cell} (k5 : plainC (some c5) = true) (k7 : canC c7 = true) : ∃ (gs : List (Int × Int)) (l' : List Int) (d5 d7 d8 d9 : Cell), gs.length = 5 ∧ Near (100 * big.natAbs) gs ∧ plainC (some d5) = true ∧ canC d7 = true ∧ plainC (some d7) = true ∧ canC d8 = true ∧ plainC (some d9) = true ∧
    forM (tgN 7) law_b4 (rangeL 0 5) (P16 c0 (.ow (l.map D.int)) (.va (.lst (pairsD ps))) c3 c4 c5 (.ow []) c7 .no .no c10 c11 c12 c13 c14 .no) =
      .nx (P16 c0 (.ow (l'.map D.int)) (.va (.lst (pairsD ps))) c3 c4 d5 (.ow (pairsD gs)) d7 d8 d9 c10 c11 c12 c13 c14 .no) := by
  have h := forM_rng (tgt := tgN 7) (body := law_b4) (lo := 0) (n := 5) (Δ := P16 c0 (.ow (l.map D.int)) (.va (.lst (pairsD ps))) c3 c4 c5 (.ow []) c7 .no .no c10 c11 c12 c13 c14 .no)
    (P := fun i Δ => ∃ (gs : List (Int × Int)) (l' : List Int) (d5 d7 d8 d9 : Cell), gs.length = i ∧ Near (100 * big.natAbs) gs ∧ plainC (some d5) = true ∧ canC d7 = true ∧ (0 < i → plainC (some d7) = true) ∧ canC d8 = true ∧ plainC (some d9) = true ∧ Δ = P16 c0 (.ow (l'.map D.int)) (.va (.lst (pairsD ps))) c3 c4 d5 (.ow (pairsD gs)) d7 d8 d9 c10 c11 c12 c13 c14 .no)
    ⟨[], l, c5, c7, .no, .no, rfl, fun q hq => (by cases hq), k5, k7, fun h => absurd h (by omega), rfl, rfl, rfl⟩ fun i Δ hi ⟨gs, l', d5, d7, d8, d9, h1, h2, h3, h4, h5, h6, h7, h8⟩ => by
      subst h8
      obtain ⟨g, l2, e5, e8, e9, a1, a2, a3, a4, a5⟩ := goal_b4 (c0 := c0) (c3 := c3) (c4 := c4) (c7 := .va (.int (0 + (i : Int)))) (c10 := c10) (c11 := c11) (c12 := c12) (c13 := c13) (c14 := c14) (l := l') hn hl h2 (by omega) h3 h6 h7
      refine ⟨P16 c0 (.ow (l'.map D.int)) (.va (.lst (pairsD ps))) c3 c4 d5 (.ow (pairsD gs)) (.va (.int (0 + (i : Int)))) d8 d9 c10 c11 c12 c13 c14 .no, _, ?_, a5, gs ++ [g], l2, e5, _, e8, e9, by rw [List.length_append, h1]; rfl, a1, a2, rfl, fun _ => rfl, a3, a4, rfl⟩
      simp only [sq_, seq_nx, seq_rt, seq_rf, seq_bk, seq_ct, seq_ex, loop_nx, loop_rt, loop_rf, loop_bk, loop_ct, loop_ex, s_ok_, s_ex_, bind_ok_, bind_ex_, map_ok_, map_ex_, opt_some_, nox_ok_, gd_true_, exprS_, retS_, retFS_, setS_, setOS_, ifS_, forS_, opM_, varR_, asB_, truM_, notM_, andM_, orM_, call1_, lstE_, consM_, aV_, someM_, slM_, raiseM_, andV_, orV_, ifM_, rd_va, rd_ow, rd_pa, addD_int, subD_int, ltG_int, leG_int, gtG_int, geG_int, intD1_int, intD1_bl, absD_int, lenD_lst, lenD_lsx, lenD_tup, canC_no, canC_va, canC_ow, eqD_int, neD_int, eqD_str, neD_str, e_opV, e_varM, e_rdR, e_get0, e_getS, e_set0, e_setS, e_bind, e_cst, e_setM, e_setO, canSet_, e_tgN, e_tgT, e_tgsNil, e_tgsCons, e_asgM, e_parM, e_tupM, e_lstM, e_notV, e_negM, e_seqA, e_chainM, e_callF1, e_sm1M, e_enumM, e_getL, e_list_ow, e_list_pa, e_own_ow, e_own_pa, e_getO, e_setW, e_appendM, e_aO, e_callG, e_cells0, e_cellsV, e_cellsO, e_omap, e_slots0, e_slotsV, e_slotsO, e_nodup0, e_nodup1, e_toR_ok, e_toR_ex, e_toF_fr, e_toF_ex, e_backO, e_backV, e_back0, e_tru_int, e_tru_bl, e_stepC, e_range1M, e_augPutM, e_aug1, e_aug2, e_putL, e_revF, listF, tupD, e_wipe0, e_wipeS, e_rest0, e_restS, e_for0, e_nox, e_plain_no, e_plain_va, e_all0, e_allS, Bool.and_self, Bool.true_and, fin_nx, fin_rt, fin_rf, fin_ex, kpD_kpc, e_kpc0, e_kpcS, keepC_pa, keepC_va, keepC_ow, keepC_no, if_true, if_false, Bool.true_eq, Bool.false_eq_true, decide_true, List.length_cons, List.length_nil, and_self, Nat.reduceAdd, Nat.reduceSub, Nat.reduceLeDiff, Nat.reduceEqDiff, Int.reduceNeg, h4]
  obtain ⟨Δ', e, gs, l', d5, d7, d8, d9, h1, h2, h3, h4, h5, h6, h7, h8⟩ := h
  exact ⟨gs, l', d5, d7, d8, d9, h1, h2, h3, h4, h5 (by omega), h6, h7, by rw [e, h8]⟩
end
end K77
end KL
set_option exponentiation.threshold 100000
/-! k77: the law. -/
namespace KL
namespace K77
open PySem L2
section
variable {c0 c1 c2 c3 c4 c5 c6 c7 c8 c9 c10 c11 c12 c13 c14 c15 : Cell}
theorem b1_loop {d2 : D} : ∀ (rows : List (Int × Int)) (c4 : Cell), canC c4 = true → (∀ q ∈ rows, F_law_in_sums [.va d2, .va (pr q)] = .ok (.bl true) [.no, .no]) →
    ∃ d4, canC d4 = true ∧ forM (tgN 4) law_b1 (pairsD rows) (P16 c0 c1 (.va d2) c3 c4 c5 c6 c7 c8 c9 c10 c11 c12 c13 c14 c15) = .nx (P16 c0 c1 (.va d2) c3 d4 c5 c6 c7 c8 c9 c10 c11 c12 c13 c14 c15)
  | [], c4, k, _ => ⟨c4, k, rfl⟩
  | q :: rows, c4, k, h => by
    obtain ⟨d4, k4, e⟩ := b1_loop (d2 := d2) rows (.va (pr q)) rfl fun p hp => h p (by simp [hp])
    have e1 := h q (by simp)
    refine ⟨d4, k4, ?_⟩
    show forM (tgN 4) law_b1 (pr q :: pairsD rows) _ = _
    rw [e_forS]
    unfold law_b1
    unfold law_b1 at e
    simp only [sq_, seq_nx, seq_rt, seq_rf, seq_bk, seq_ct, seq_ex, loop_nx, loop_rt, loop_rf, loop_bk, loop_ct, loop_ex, s_ok_, s_ex_, bind_ok_, bind_ex_, map_ok_, map_ex_, opt_some_, nox_ok_, gd_true_, exprS_, retS_, retFS_, setS_, setOS_, ifS_, forS_, opM_, varR_, asB_, truM_, notM_, andM_, orM_, call1_, lstE_, consM_, aV_, someM_, slM_, raiseM_, andV_, orV_, ifM_, rd_va, rd_ow, rd_pa, addD_int, subD_int, ltG_int, leG_int, gtG_int, geG_int, intD1_int, intD1_bl, absD_int, lenD_lst, lenD_lsx, lenD_tup, canC_no, canC_va, canC_ow, eqD_int, neD_int, eqD_str, neD_str, e_opV, e_varM, e_rdR, e_get0, e_getS, e_set0, e_setS, e_bind, e_cst, e_setM, e_setO, canSet_, e_tgN, e_tgT, e_tgsNil, e_tgsCons, e_asgM, e_parM, e_tupM, e_lstM, e_notV, e_negM, e_seqA, e_chainM, e_callF1, e_sm1M, e_enumM, e_getL, e_list_ow, e_list_pa, e_own_ow, e_own_pa, e_getO, e_setW, e_appendM, e_aO, e_callG, e_cells0, e_cellsV, e_cellsO, e_omap, e_slots0, e_slotsV, e_slotsO, e_nodup0, e_nodup1, e_toR_ok, e_toR_ex, e_toF_fr, e_toF_ex, e_backO, e_backV, e_back0, e_tru_int, e_tru_bl, e_stepC, e_range1M, e_augPutM, e_aug1, e_aug2, e_putL, e_revF, listF, tupD, e_wipe0, e_wipeS, e_rest0, e_restS, e_for0, e_nox, e_plain_no, e_plain_va, e_all0, e_allS, Bool.and_self, Bool.true_and, fin_nx, fin_rt, fin_rf, fin_ex, kpD_kpc, e_kpc0, e_kpcS, keepC_pa, keepC_va, keepC_ow, keepC_no, if_true, if_false, Bool.true_eq, Bool.false_eq_true, decide_true, List.length_cons, List.length_nil, and_self, Nat.reduceAdd, Nat.reduceSub, Nat.reduceLeDiff, Nat.reduceEqDiff, Int.reduceNeg, k, e1, Bool.not_true, e]
theorem b2_loop {d3 : D} : ∀ (rows : List (Int × Int)) (c5 : Cell), plainC (some c5) = true → (∀ q ∈ rows, F_law_in_sums [.va d3, .va (pr q)] = .ok (.bl true) [.no, .no]) →
    ∃ d5, plainC (some d5) = true ∧ forM (tgN 5) law_b2 (pairsD rows) (P16 c0 c1 c2 (.va d3) c4 c5 c6 c7 c8 c9 c10 c11 c12 c13 c14 c15) = .nx (P16 c0 c1 c2 (.va d3) c4 d5 c6 c7 c8 c9 c10 c11 c12 c13 c14 c15)
  | [], c5, k, _ => ⟨c5, k, rfl⟩
  | q :: rows, c5, k, h => by
    obtain ⟨d5, k5, e⟩ := b2_loop (d3 := d3) rows (.va (pr q)) rfl fun p hp => h p (by simp [hp])
    have e1 := h q (by simp)
    have k := plain_can k
    refine ⟨d5, k5, ?_⟩
    show forM (tgN 5) law_b2 (pr q :: pairsD rows) _ = _
    rw [e_forS]
    unfold law_b2
    unfold law_b2 at e
    simp only [sq_, seq_nx, seq_rt, seq_rf, seq_bk, seq_ct, seq_ex, loop_nx, loop_rt, loop_rf, loop_bk, loop_ct, loop_ex, s_ok_, s_ex_, bind_ok_, bind_ex_, map_ok_, map_ex_, opt_some_, nox_ok_, gd_true_, exprS_, retS_, retFS_, setS_, setOS_, ifS_, forS_, opM_, varR_, asB_, truM_, notM_, andM_, orM_, call1_, lstE_, consM_, aV_, someM_, slM_, raiseM_, andV_, orV_, ifM_, rd_va, rd_ow, rd_pa, addD_int, subD_int, ltG_int, leG_int, gtG_int, geG_int, intD1_int, intD1_bl, absD_int, lenD_lst, lenD_lsx, lenD_tup, canC_no, canC_va, canC_ow, eqD_int, neD_int, eqD_str, neD_str, e_opV, e_varM, e_rdR, e_get0, e_getS, e_set0, e_setS, e_bind, e_cst, e_setM, e_setO, canSet_, e_tgN, e_tgT, e_tgsNil, e_tgsCons, e_asgM, e_parM, e_tupM, e_lstM, e_notV, e_negM, e_seqA, e_chainM, e_callF1, e_sm1M, e_enumM, e_getL, e_list_ow, e_list_pa, e_own_ow, e_own_pa, e_getO, e_setW, e_appendM, e_aO, e_callG, e_cells0, e_cellsV, e_cellsO, e_omap, e_slots0, e_slotsV, e_slotsO, e_nodup0, e_nodup1, e_toR_ok, e_toR_ex, e_toF_fr, e_toF_ex, e_backO, e_backV, e_back0, e_tru_int, e_tru_bl, e_stepC, e_range1M, e_augPutM, e_aug1, e_aug2, e_putL, e_revF, listF, tupD, e_wipe0, e_wipeS, e_rest0, e_restS, e_for0, e_nox, e_plain_no, e_plain_va, e_all0, e_allS, Bool.and_self, Bool.true_and, fin_nx, fin_rt, fin_rf, fin_ex, kpD_kpc, e_kpc0, e_kpcS, keepC_pa, keepC_va, keepC_ow, keepC_no, if_true, if_false, Bool.true_eq, Bool.false_eq_true, decide_true, List.length_cons, List.length_nil, and_self, Nat.reduceAdd, Nat.reduceSub, Nat.reduceLeDiff, Nat.reduceEqDiff, Int.reduceNeg, k, e1, Bool.not_true, e]
theorem sum_dot : ∀ (xs ns : List Int), ((xs.zip ns).map fun z => z.1 * z.2).sum = dot xs ns
  | [], ns => by simp [dot]
  | x :: xs, [] => by simp [dot]
  | x :: xs, n :: ns => by
    show x * n + ((xs.zip ns).map fun z => z.1 * z.2).sum = x * n + dot xs ns
    rw [sum_dot xs ns]
theorem isOf_int : ∀ l : List Int, isOf (l.map D.int) = some l
  | [] => rfl
  | i :: l => by
    show (isOf (l.map D.int)).map _ = _
    rw [isOf_int l]; rfl
/-- the total of one place -/
theorem tot_ok {ps : List (Int × Int)} {nums : List Int} {B i : Nat} {f : Int × Int → Int} {c5 c9 : Cell} (hf : ∀ q : Int × Int, ixD (pr q) (.int (i : Nat)) = some (.int (f q))) (hps : ps.length ≤ 10) (hB : ∀ q ∈ ps, (f q).natAbs < 2 ^ 100) (hn : ∀ n ∈ nums, n.natAbs < 2 ^ 90000) (p5 : plainC (some c5) = true) (p9 : plainC (some c9) = true) (k5 : canC c5 = true) (k9 : canC c9 = true) :
    lcM [5, 9] (opM zipD (varM 2) (varM 11)) (tgT 2 (tgsCons (tgN 5) (tgsCons (tgN 9) tgsNil))) (cst true) (opM mulG (opV ixD 5 (varR 15)) (varR 9)) (P16 c0 c1 (.va (.lst (pairsD ps))) c3 c4 c5 c6 c7 c8 c9 c10 (.va (.tup (nums.map D.int))) c12 c13 c14 (.va (.int (i : Nat)))) =
      .ok ((((ps.map f).zip nums).map fun z => z.1 * z.2).map D.int) (P16 c0 c1 (.va (.lst (pairsD ps))) c3 c4 c5 c6 c7 c8 c9 c10 (.va (.tup (nums.map D.int))) c12 c13 c14 (.va (.int (i : Nat)))) := by
  have hz : zipD (.lst (pairsD ps)) (.tup (nums.map D.int)) = some ((ps.zip nums).map fun z => .tup [pr z.1, .int z.2]) := by
    show some (zipL (ps.map pr) (nums.map D.int)) = _
    unfold zipL
    rw [List.zip_map, List.map_map]; rfl
  rw [lcM_m (fun z : (Int × Int) × Int => .tup [pr z.1, .int z.2]) (fun z => .int (f z.1 * z.2)) (xs := ps.zip nums) (Δ := P16 c0 c1 (.va (.lst (pairsD ps))) c3 c4 c5 c6 c7 c8 c9 c10 (.va (.tup (nums.map D.int))) c12 c13 c14 (.va (.int (i : Nat)))) (hi := by simp only [sq_, seq_nx, seq_rt, seq_rf, seq_bk, seq_ct, seq_ex, loop_nx, loop_rt, loop_rf, loop_bk, loop_ct, loop_ex, s_ok_, s_ex_, bind_ok_, bind_ex_, map_ok_, map_ex_, opt_some_, nox_ok_, gd_true_, exprS_, retS_, retFS_, setS_, setOS_, ifS_, forS_, opM_, varR_, asB_, truM_, notM_, andM_, orM_, call1_, lstE_, consM_, aV_, someM_, slM_, raiseM_, andV_, orV_, ifM_, rd_va, rd_ow, rd_pa, addD_int, subD_int, ltG_int, leG_int, gtG_int, geG_int, intD1_int, intD1_bl, absD_int, lenD_lst, lenD_lsx, lenD_tup, canC_no, canC_va, canC_ow, eqD_int, neD_int, eqD_str, neD_str, e_opV, e_varM, e_rdR, e_get0, e_getS, e_set0, e_setS, e_bind, e_cst, e_setM, e_setO, canSet_, e_tgN, e_tgT, e_tgsNil, e_tgsCons, e_asgM, e_parM, e_tupM, e_lstM, e_notV, e_negM, e_seqA, e_chainM, e_callF1, e_sm1M, e_enumM, e_getL, e_list_ow, e_list_pa, e_own_ow, e_own_pa, e_getO, e_setW, e_appendM, e_aO, e_callG, e_cells0, e_cellsV, e_cellsO, e_omap, e_slots0, e_slotsV, e_slotsO, e_nodup0, e_nodup1, e_toR_ok, e_toR_ex, e_toF_fr, e_toF_ex, e_backO, e_backV, e_back0, e_tru_int, e_tru_bl, e_stepC, e_range1M, e_augPutM, e_aug1, e_aug2, e_putL, e_revF, listF, tupD, e_wipe0, e_wipeS, e_rest0, e_restS, e_for0, e_nox, e_plain_no, e_plain_va, e_all0, e_allS, Bool.and_self, Bool.true_and, fin_nx, fin_rt, fin_rf, fin_ex, kpD_kpc, e_kpc0, e_kpcS, keepC_pa, keepC_va, keepC_ow, keepC_no, if_true, if_false, Bool.true_eq, Bool.false_eq_true, decide_true, List.length_cons, List.length_nil, and_self, Nat.reduceAdd, Nat.reduceSub, Nat.reduceLeDiff, Nat.reduceEqDiff, Int.reduceNeg, hz]) (hl := by rw [List.length_zip]; omega) (hp := by simp only [sq_, seq_nx, seq_rt, seq_rf, seq_bk, seq_ct, seq_ex, loop_nx, loop_rt, loop_rf, loop_bk, loop_ct, loop_ex, s_ok_, s_ex_, bind_ok_, bind_ex_, map_ok_, map_ex_, opt_some_, nox_ok_, gd_true_, exprS_, retS_, retFS_, setS_, setOS_, ifS_, forS_, opM_, varR_, asB_, truM_, notM_, andM_, orM_, call1_, lstE_, consM_, aV_, someM_, slM_, raiseM_, andV_, orV_, ifM_, rd_va, rd_ow, rd_pa, addD_int, subD_int, ltG_int, leG_int, gtG_int, geG_int, intD1_int, intD1_bl, absD_int, lenD_lst, lenD_lsx, lenD_tup, canC_no, canC_va, canC_ow, eqD_int, neD_int, eqD_str, neD_str, e_opV, e_varM, e_rdR, e_get0, e_getS, e_set0, e_setS, e_bind, e_cst, e_setM, e_setO, canSet_, e_tgN, e_tgT, e_tgsNil, e_tgsCons, e_asgM, e_parM, e_tupM, e_lstM, e_notV, e_negM, e_seqA, e_chainM, e_callF1, e_sm1M, e_enumM, e_getL, e_list_ow, e_list_pa, e_own_ow, e_own_pa, e_getO, e_setW, e_appendM, e_aO, e_callG, e_cells0, e_cellsV, e_cellsO, e_omap, e_slots0, e_slotsV, e_slotsO, e_nodup0, e_nodup1, e_toR_ok, e_toR_ex, e_toF_fr, e_toF_ex, e_backO, e_backV, e_back0, e_tru_int, e_tru_bl, e_stepC, e_range1M, e_augPutM, e_aug1, e_aug2, e_putL, e_revF, listF, tupD, e_wipe0, e_wipeS, e_rest0, e_restS, e_for0, e_nox, e_plain_no, e_plain_va, e_all0, e_allS, Bool.and_self, Bool.true_and, fin_nx, fin_rt, fin_rf, fin_ex, kpD_kpc, e_kpc0, e_kpcS, keepC_pa, keepC_va, keepC_ow, keepC_no, if_true, if_false, Bool.true_eq, Bool.false_eq_true, decide_true, List.length_cons, List.length_nil, and_self, Nat.reduceAdd, Nat.reduceSub, Nat.reduceLeDiff, Nat.reduceEqDiff, Int.reduceNeg, p5, p9]) (h := fun z hz2 => ?_)]
  · congr 1
    rw [List.zip_map_left, List.map_map, List.map_map]; rfl
  · obtain ⟨q1, q2⟩ := List.of_mem_zip (a := z.1) (b := z.2) hz2
    have hm := mulG_int (hB _ q1) (hn _ q2) (by omega)
    have h5 := hf z.1
    simp only [sq_, seq_nx, seq_rt, seq_rf, seq_bk, seq_ct, seq_ex, loop_nx, loop_rt, loop_rf, loop_bk, loop_ct, loop_ex, s_ok_, s_ex_, bind_ok_, bind_ex_, map_ok_, map_ex_, opt_some_, nox_ok_, gd_true_, exprS_, retS_, retFS_, setS_, setOS_, ifS_, forS_, opM_, varR_, asB_, truM_, notM_, andM_, orM_, call1_, lstE_, consM_, aV_, someM_, slM_, raiseM_, andV_, orV_, ifM_, rd_va, rd_ow, rd_pa, addD_int, subD_int, ltG_int, leG_int, gtG_int, geG_int, intD1_int, intD1_bl, absD_int, lenD_lst, lenD_lsx, lenD_tup, canC_no, canC_va, canC_ow, eqD_int, neD_int, eqD_str, neD_str, e_opV, e_varM, e_rdR, e_get0, e_getS, e_set0, e_setS, e_bind, e_cst, e_setM, e_setO, canSet_, e_tgN, e_tgT, e_tgsNil, e_tgsCons, e_asgM, e_parM, e_tupM, e_lstM, e_notV, e_negM, e_seqA, e_chainM, e_callF1, e_sm1M, e_enumM, e_getL, e_list_ow, e_list_pa, e_own_ow, e_own_pa, e_getO, e_setW, e_appendM, e_aO, e_callG, e_cells0, e_cellsV, e_cellsO, e_omap, e_slots0, e_slotsV, e_slotsO, e_nodup0, e_nodup1, e_toR_ok, e_toR_ex, e_toF_fr, e_toF_ex, e_backO, e_backV, e_back0, e_tru_int, e_tru_bl, e_stepC, e_range1M, e_augPutM, e_aug1, e_aug2, e_putL, e_revF, listF, tupD, e_wipe0, e_wipeS, e_rest0, e_restS, e_for0, e_nox, e_plain_no, e_plain_va, e_all0, e_allS, Bool.and_self, Bool.true_and, fin_nx, fin_rt, fin_rf, fin_ex, kpD_kpc, e_kpc0, e_kpcS, keepC_pa, keepC_va, keepC_ow, keepC_no, if_true, if_false, Bool.true_eq, Bool.false_eq_true, decide_true, List.length_cons, List.length_nil, and_self, Nat.reduceAdd, Nat.reduceSub, Nat.reduceLeDiff, Nat.reduceEqDiff, Int.reduceNeg, k5, k9, h5, hm]
end
end K77
end KL
set_option exponentiation.threshold 100000
/-! k77: the law's checks. -/
namespace KL
namespace K77
open PySem L2
theorem eqB_pr (p q : Int × Int) : eqB (pr p) (pr q) = some (decide (p = q)) := by
  have h1 : toPy (pr p) = some (.tuple [.int p.1, .int p.2]) := by simp [toPy, toPys]
  have h2 : toPy (pr q) = some (.tuple [.int q.1, .int q.2]) := by simp [toPy, toPys]
  have e : eqB (pr p) (pr q) = match toPy (pr p), toPy (pr q) with
    | some p, some q => if SeqAt.shaped p && SeqAt.shaped q then some (PyData.eqv p q) else none
    | _, _ => none := rfl
  rw [e, h1, h2]
  show (if (SeqAt.shaped (.tuple [.int p.1, .int p.2]) && SeqAt.shaped (.tuple [.int q.1, .int q.2])) = true then some (PyData.eqv (.tuple [.int p.1, .int p.2]) (.tuple [.int q.1, .int q.2])) else none) = _
  have s : ∀ a b : Int, SeqAt.shaped (.tuple [.int a, .int b]) = true := fun _ _ => rfl
  rw [s, s]
  have v : PyData.eqv (.tuple [.int p.1, .int p.2]) (.tuple [.int q.1, .int q.2]) = decide (p = q) := by
    simp [PyData.eqv, PyData.eqvAll, Prod.ext_iff]
    rfl
  rw [v]; rfl
section
variable {c0 c1 c2 c3 c4 c5 c6 c7 c8 c9 c10 c11 c12 c13 c14 c15 : Cell}
theorem b5_turn {ps : List (Int × Int)} {g : Int × Int} {b : Bool} (hps : ps.length ≤ 10) (hs : Near (6 * big.natAbs) ps) (hb : b = true ↔ Gen ps g.1 g.2) (he : F_law_in_sums [.va (.lst (pairsD ps)), .va (pr g)] = .ok (.bl b) [.no, .no])
    (hn : (Gen ps g.1 g.2 → ∃ nums : List Int, nums.length = ps.length ∧ g.1 = dot (ps.map Prod.fst) nums ∧ g.2 = dot (ps.map Prod.snd) nums ∧ Sz 40000 nums ∧ F_numbers_for [.va (.lst (pairsD ps)), .va (pr g)] = .ok (.tup (nums.map D.int)) [.no, .no]) ∧ (¬ Gen ps g.1 g.2 → F_numbers_for [.va (.lst (pairsD ps)), .va (pr g)] = .ok .non [.no, .no]))
    (k9 : canC c9 = true) (k10 : canC c10 = true) (k11 : canC c11 = true) (k12 : canC c12 = true) (k5 : canC c5 = true) (p5 : plainC (some c5) = true) (p9 : plainC (some c9) = true) :
    ∃ d10 d11 d12, canC d10 = true ∧ canC d11 = true ∧ canC d12 = true ∧ law_b5 (P16 c0 c1 (.va (.lst (pairsD ps))) c3 c4 c5 c6 c7 (.va (pr g)) c9 c10 c11 c12 c13 c14 .no) = .nx (P16 c0 c1 (.va (.lst (pairsD ps))) c3 c4 c5 c6 c7 (.va (pr g)) c9 d10 d11 d12 c13 c14 .no) := by
  have bb : big.natAbs = 1000000000039 := rfl
  have nb : ∀ x y : Bool, neD (.bl x) (.bl y) = some (.bl (!decide (x = y))) := fun _ _ => rfl
  by_cases hG : Gen ps g.1 g.2
  · obtain ⟨nums, h1, h2, h3, h4, h5⟩ := hn.1 hG
    have hbt := hb.mpr hG
    subst hbt
    have i1 : isntD (.tup (nums.map D.int)) .non = some (.bl true) := rfl
    refine ⟨.va (.bl true), .va (.tup (nums.map D.int)), .ow [.int g.1, .int g.2], rfl, rfl, rfl, ?_⟩
    have r2 : ∀ Δ, rng1 (.int 2) Δ = .ok ([0, 1].map fun i : Nat => D.int (i : Nat)) Δ := fun Δ => rng1_nat (e := 2) (by unfold lim62; omega)
    have hz : ∀ n ∈ nums, n.natAbs < 2 ^ 90000 := fun n hn => Nat.lt_of_lt_of_le (h4 n hn) (Nat.pow_le_pow_right (by omega) (by omega))
    have hB1 : ∀ q ∈ ps, q.1.natAbs < 2 ^ 100 := fun q hq => by have := hs q hq; omega
    have hB2 : ∀ q ∈ ps, q.2.natAbs < 2 ^ 100 := fun q hq => by have := hs q hq; omega
    have t0 := tot_ok (c0 := c0) (c1 := c1) (c3 := c3) (c4 := c4) (c5 := c5) (c6 := c6) (c7 := c7) (c8 := .va (pr g)) (c9 := c9) (c10 := .va (.bl true)) (c12 := c12) (c13 := c13) (c14 := c14) (i := 0) (f := Prod.fst) (B := 0) (nums := nums) (fun _ => rfl) hps hB1 hz p5 p9 k5 k9
    have t1 := tot_ok (c0 := c0) (c1 := c1) (c3 := c3) (c4 := c4) (c5 := c5) (c6 := c6) (c7 := c7) (c8 := .va (pr g)) (c9 := c9) (c10 := .va (.bl true)) (c12 := c12) (c13 := c13) (c14 := c14) (i := 1) (f := Prod.snd) (B := 0) (nums := nums) (fun _ => rfl) hps hB2 hz p5 p9 k5 k9
    have s0 : sumD (.lst ((((ps.map Prod.fst).zip nums).map fun z => z.1 * z.2).map D.int)) = some (.int g.1) := by
      show (isOf _).map _ = _
      rw [isOf_int, h2, ← sum_dot]; rfl
    have s1 : sumD (.lst ((((ps.map Prod.snd).zip nums).map fun z => z.1 * z.2).map D.int)) = some (.int g.2) := by
      show (isOf _).map _ = _
      rw [isOf_int, h3, ← sum_dot]; rfl
    have hlen : ((nums.map D.int).length : Int) = ((pairsD ps).length : Int) := by rw [List.length_map, List.length_map, h1]
    have heq : neD (.tup [.int g.1, .int g.2]) (pr g) = some (.bl false) := by
      show (eqB (pr g) (pr g)).map _ = _
      rw [eqB_pr, decide_eq_true rfl]; rfl
    unfold law_b5
    simp only [sq_, seq_nx, seq_rt, seq_rf, seq_bk, seq_ct, seq_ex, loop_nx, loop_rt, loop_rf, loop_bk, loop_ct, loop_ex, s_ok_, s_ex_, bind_ok_, bind_ex_, map_ok_, map_ex_, opt_some_, nox_ok_, gd_true_, exprS_, retS_, retFS_, setS_, setOS_, ifS_, forS_, opM_, varR_, asB_, truM_, notM_, andM_, orM_, call1_, lstE_, consM_, aV_, someM_, slM_, raiseM_, andV_, orV_, ifM_, rd_va, rd_ow, rd_pa, addD_int, subD_int, ltG_int, leG_int, gtG_int, geG_int, intD1_int, intD1_bl, absD_int, lenD_lst, lenD_lsx, lenD_tup, canC_no, canC_va, canC_ow, eqD_int, neD_int, eqD_str, neD_str, e_opV, e_varM, e_rdR, e_get0, e_getS, e_set0, e_setS, e_bind, e_cst, e_setM, e_setO, canSet_, e_tgN, e_tgT, e_tgsNil, e_tgsCons, e_asgM, e_parM, e_tupM, e_lstM, e_notV, e_negM, e_seqA, e_chainM, e_callF1, e_sm1M, e_enumM, e_getL, e_list_ow, e_list_pa, e_own_ow, e_own_pa, e_getO, e_setW, e_appendM, e_aO, e_callG, e_cells0, e_cellsV, e_cellsO, e_omap, e_slots0, e_slotsV, e_slotsO, e_nodup0, e_nodup1, e_toR_ok, e_toR_ex, e_toF_fr, e_toF_ex, e_backO, e_backV, e_back0, e_tru_int, e_tru_bl, e_stepC, e_range1M, e_augPutM, e_aug1, e_aug2, e_putL, e_revF, listF, tupD, e_wipe0, e_wipeS, e_rest0, e_restS, e_for0, e_nox, e_plain_no, e_plain_va, e_all0, e_allS, Bool.and_self, Bool.true_and, fin_nx, fin_rt, fin_rf, fin_ex, kpD_kpc, e_kpc0, e_kpcS, keepC_pa, keepC_va, keepC_ow, keepC_no, if_true, if_false, Bool.true_eq, Bool.false_eq_true, decide_true, List.length_cons, List.length_nil, and_self, Nat.reduceAdd, Nat.reduceSub, Nat.reduceLeDiff, Nat.reduceEqDiff, Int.reduceNeg, he, h5, i1, nb, k10, k11, Bool.not_true]
    rw [lcM_m (fun i : Nat => D.int (i : Nat)) (fun i => if i = 0 then .int g.1 else .int g.2) (xs := [0, 1]) (Δ := P16 c0 c1 (.va (.lst (pairsD ps))) c3 c4 c5 c6 c7 (.va (pr g)) c9 (.va (.bl true)) (.va (.tup (nums.map D.int))) c12 c13 c14 .no) (hi := by simp only [sq_, seq_nx, seq_rt, seq_rf, seq_bk, seq_ct, seq_ex, loop_nx, loop_rt, loop_rf, loop_bk, loop_ct, loop_ex, s_ok_, s_ex_, bind_ok_, bind_ex_, map_ok_, map_ex_, opt_some_, nox_ok_, gd_true_, exprS_, retS_, retFS_, setS_, setOS_, ifS_, forS_, opM_, varR_, asB_, truM_, notM_, andM_, orM_, call1_, lstE_, consM_, aV_, someM_, slM_, raiseM_, andV_, orV_, ifM_, rd_va, rd_ow, rd_pa, addD_int, subD_int, ltG_int, leG_int, gtG_int, geG_int, intD1_int, intD1_bl, absD_int, lenD_lst, lenD_lsx, lenD_tup, canC_no, canC_va, canC_ow, eqD_int, neD_int, eqD_str, neD_str, e_opV, e_varM, e_rdR, e_get0, e_getS, e_set0, e_setS, e_bind, e_cst, e_setM, e_setO, canSet_, e_tgN, e_tgT, e_tgsNil, e_tgsCons, e_asgM, e_parM, e_tupM, e_lstM, e_notV, e_negM, e_seqA, e_chainM, e_callF1, e_sm1M, e_enumM, e_getL, e_list_ow, e_list_pa, e_own_ow, e_own_pa, e_getO, e_setW, e_appendM, e_aO, e_callG, e_cells0, e_cellsV, e_cellsO, e_omap, e_slots0, e_slotsV, e_slotsO, e_nodup0, e_nodup1, e_toR_ok, e_toR_ex, e_toF_fr, e_toF_ex, e_backO, e_backV, e_back0, e_tru_int, e_tru_bl, e_stepC, e_range1M, e_augPutM, e_aug1, e_aug2, e_putL, e_revF, listF, tupD, e_wipe0, e_wipeS, e_rest0, e_restS, e_for0, e_nox, e_plain_no, e_plain_va, e_all0, e_allS, Bool.and_self, Bool.true_and, fin_nx, fin_rt, fin_rf, fin_ex, kpD_kpc, e_kpc0, e_kpcS, keepC_pa, keepC_va, keepC_ow, keepC_no, if_true, if_false, Bool.true_eq, Bool.false_eq_true, decide_true, List.length_cons, List.length_nil, and_self, Nat.reduceAdd, Nat.reduceSub, Nat.reduceLeDiff, Nat.reduceEqDiff, Int.reduceNeg, r2]) (hl := by simp) (hp := rfl) (h := fun i hi => ?_)]
    · have em : ([0, 1].map fun i : Nat => if i = 0 then D.int g.1 else D.int g.2) = [.int g.1, .int g.2] := rfl
      simp only [sq_, seq_nx, seq_rt, seq_rf, seq_bk, seq_ct, seq_ex, loop_nx, loop_rt, loop_rf, loop_bk, loop_ct, loop_ex, s_ok_, s_ex_, bind_ok_, bind_ex_, map_ok_, map_ex_, opt_some_, nox_ok_, gd_true_, exprS_, retS_, retFS_, setS_, setOS_, ifS_, forS_, opM_, varR_, asB_, truM_, notM_, andM_, orM_, call1_, lstE_, consM_, aV_, someM_, slM_, raiseM_, andV_, orV_, ifM_, rd_va, rd_ow, rd_pa, addD_int, subD_int, ltG_int, leG_int, gtG_int, geG_int, intD1_int, intD1_bl, absD_int, lenD_lst, lenD_lsx, lenD_tup, canC_no, canC_va, canC_ow, eqD_int, neD_int, eqD_str, neD_str, e_opV, e_varM, e_rdR, e_get0, e_getS, e_set0, e_setS, e_bind, e_cst, e_setM, e_setO, canSet_, e_tgN, e_tgT, e_tgsNil, e_tgsCons, e_asgM, e_parM, e_tupM, e_lstM, e_notV, e_negM, e_seqA, e_chainM, e_callF1, e_sm1M, e_enumM, e_getL, e_list_ow, e_list_pa, e_own_ow, e_own_pa, e_getO, e_setW, e_appendM, e_aO, e_callG, e_cells0, e_cellsV, e_cellsO, e_omap, e_slots0, e_slotsV, e_slotsO, e_nodup0, e_nodup1, e_toR_ok, e_toR_ex, e_toF_fr, e_toF_ex, e_backO, e_backV, e_back0, e_tru_int, e_tru_bl, e_stepC, e_range1M, e_augPutM, e_aug1, e_aug2, e_putL, e_revF, listF, tupD, e_wipe0, e_wipeS, e_rest0, e_restS, e_for0, e_nox, e_plain_no, e_plain_va, e_all0, e_allS, Bool.and_self, Bool.true_and, fin_nx, fin_rt, fin_rf, fin_ex, kpD_kpc, e_kpc0, e_kpcS, keepC_pa, keepC_va, keepC_ow, keepC_no, if_true, if_false, Bool.true_eq, Bool.false_eq_true, decide_true, List.length_cons, List.length_nil, and_self, Nat.reduceAdd, Nat.reduceSub, Nat.reduceLeDiff, Nat.reduceEqDiff, Int.reduceNeg, em, k12, hlen, heq, Bool.not_true]
    · have hi : i = 0 ∨ i = 1 := by simpa using hi
      rcases hi with rfl | rfl
      · simp only [sq_, seq_nx, seq_rt, seq_rf, seq_bk, seq_ct, seq_ex, loop_nx, loop_rt, loop_rf, loop_bk, loop_ct, loop_ex, s_ok_, s_ex_, bind_ok_, bind_ex_, map_ok_, map_ex_, opt_some_, nox_ok_, gd_true_, exprS_, retS_, retFS_, setS_, setOS_, ifS_, forS_, opM_, varR_, asB_, truM_, notM_, andM_, orM_, call1_, lstE_, consM_, aV_, someM_, slM_, raiseM_, andV_, orV_, ifM_, rd_va, rd_ow, rd_pa, addD_int, subD_int, ltG_int, leG_int, gtG_int, geG_int, intD1_int, intD1_bl, absD_int, lenD_lst, lenD_lsx, lenD_tup, canC_no, canC_va, canC_ow, eqD_int, neD_int, eqD_str, neD_str, e_opV, e_varM, e_rdR, e_get0, e_getS, e_set0, e_setS, e_bind, e_cst, e_setM, e_setO, canSet_, e_tgN, e_tgT, e_tgsNil, e_tgsCons, e_asgM, e_parM, e_tupM, e_lstM, e_notV, e_negM, e_seqA, e_chainM, e_callF1, e_sm1M, e_enumM, e_getL, e_list_ow, e_list_pa, e_own_ow, e_own_pa, e_getO, e_setW, e_appendM, e_aO, e_callG, e_cells0, e_cellsV, e_cellsO, e_omap, e_slots0, e_slotsV, e_slotsO, e_nodup0, e_nodup1, e_toR_ok, e_toR_ex, e_toF_fr, e_toF_ex, e_backO, e_backV, e_back0, e_tru_int, e_tru_bl, e_stepC, e_range1M, e_augPutM, e_aug1, e_aug2, e_putL, e_revF, listF, tupD, e_wipe0, e_wipeS, e_rest0, e_restS, e_for0, e_nox, e_plain_no, e_plain_va, e_all0, e_allS, Bool.and_self, Bool.true_and, fin_nx, fin_rt, fin_rf, fin_ex, kpD_kpc, e_kpc0, e_kpcS, keepC_pa, keepC_va, keepC_ow, keepC_no, if_true, if_false, Bool.true_eq, Bool.false_eq_true, decide_true, List.length_cons, List.length_nil, and_self, Nat.reduceAdd, Nat.reduceSub, Nat.reduceLeDiff, Nat.reduceEqDiff, Int.reduceNeg, t0, s0]
      · simp only [sq_, seq_nx, seq_rt, seq_rf, seq_bk, seq_ct, seq_ex, loop_nx, loop_rt, loop_rf, loop_bk, loop_ct, loop_ex, s_ok_, s_ex_, bind_ok_, bind_ex_, map_ok_, map_ex_, opt_some_, nox_ok_, gd_true_, exprS_, retS_, retFS_, setS_, setOS_, ifS_, forS_, opM_, varR_, asB_, truM_, notM_, andM_, orM_, call1_, lstE_, consM_, aV_, someM_, slM_, raiseM_, andV_, orV_, ifM_, rd_va, rd_ow, rd_pa, addD_int, subD_int, ltG_int, leG_int, gtG_int, geG_int, intD1_int, intD1_bl, absD_int, lenD_lst, lenD_lsx, lenD_tup, canC_no, canC_va, canC_ow, eqD_int, neD_int, eqD_str, neD_str, e_opV, e_varM, e_rdR, e_get0, e_getS, e_set0, e_setS, e_bind, e_cst, e_setM, e_setO, canSet_, e_tgN, e_tgT, e_tgsNil, e_tgsCons, e_asgM, e_parM, e_tupM, e_lstM, e_notV, e_negM, e_seqA, e_chainM, e_callF1, e_sm1M, e_enumM, e_getL, e_list_ow, e_list_pa, e_own_ow, e_own_pa, e_getO, e_setW, e_appendM, e_aO, e_callG, e_cells0, e_cellsV, e_cellsO, e_omap, e_slots0, e_slotsV, e_slotsO, e_nodup0, e_nodup1, e_toR_ok, e_toR_ex, e_toF_fr, e_toF_ex, e_backO, e_backV, e_back0, e_tru_int, e_tru_bl, e_stepC, e_range1M, e_augPutM, e_aug1, e_aug2, e_putL, e_revF, listF, tupD, e_wipe0, e_wipeS, e_rest0, e_restS, e_for0, e_nox, e_plain_no, e_plain_va, e_all0, e_allS, Bool.and_self, Bool.true_and, fin_nx, fin_rt, fin_rf, fin_ex, kpD_kpc, e_kpc0, e_kpcS, keepC_pa, keepC_va, keepC_ow, keepC_no, if_true, if_false, Bool.true_eq, Bool.false_eq_true, decide_true, List.length_cons, List.length_nil, and_self, Nat.reduceAdd, Nat.reduceSub, Nat.reduceLeDiff, Nat.reduceEqDiff, Int.reduceNeg, t1, s1, Nat.one_ne_zero]
  · have hnn := hn.2 hG
    have hbf : b = false := by
      cases b with
      | false => rfl
      | true => exact absurd (hb.mp rfl) hG
    subst hbf
    have i0 : isntD .non .non = some (.bl false) := rfl
    refine ⟨.va (.bl false), .va .non, c12, rfl, rfl, k12, ?_⟩
    unfold law_b5
    simp only [sq_, seq_nx, seq_rt, seq_rf, seq_bk, seq_ct, seq_ex, loop_nx, loop_rt, loop_rf, loop_bk, loop_ct, loop_ex, s_ok_, s_ex_, bind_ok_, bind_ex_, map_ok_, map_ex_, opt_some_, nox_ok_, gd_true_, exprS_, retS_, retFS_, setS_, setOS_, ifS_, forS_, opM_, varR_, asB_, truM_, notM_, andM_, orM_, call1_, lstE_, consM_, aV_, someM_, slM_, raiseM_, andV_, orV_, ifM_, rd_va, rd_ow, rd_pa, addD_int, subD_int, ltG_int, leG_int, gtG_int, geG_int, intD1_int, intD1_bl, absD_int, lenD_lst, lenD_lsx, lenD_tup, canC_no, canC_va, canC_ow, eqD_int, neD_int, eqD_str, neD_str, e_opV, e_varM, e_rdR, e_get0, e_getS, e_set0, e_setS, e_bind, e_cst, e_setM, e_setO, canSet_, e_tgN, e_tgT, e_tgsNil, e_tgsCons, e_asgM, e_parM, e_tupM, e_lstM, e_notV, e_negM, e_seqA, e_chainM, e_callF1, e_sm1M, e_enumM, e_getL, e_list_ow, e_list_pa, e_own_ow, e_own_pa, e_getO, e_setW, e_appendM, e_aO, e_callG, e_cells0, e_cellsV, e_cellsO, e_omap, e_slots0, e_slotsV, e_slotsO, e_nodup0, e_nodup1, e_toR_ok, e_toR_ex, e_toF_fr, e_toF_ex, e_backO, e_backV, e_back0, e_tru_int, e_tru_bl, e_stepC, e_range1M, e_augPutM, e_aug1, e_aug2, e_putL, e_revF, listF, tupD, e_wipe0, e_wipeS, e_rest0, e_restS, e_for0, e_nox, e_plain_no, e_plain_va, e_all0, e_allS, Bool.and_self, Bool.true_and, fin_nx, fin_rt, fin_rf, fin_ex, kpD_kpc, e_kpc0, e_kpcS, keepC_pa, keepC_va, keepC_ow, keepC_no, if_true, if_false, Bool.true_eq, Bool.false_eq_true, decide_true, List.length_cons, List.length_nil, and_self, Nat.reduceAdd, Nat.reduceSub, Nat.reduceLeDiff, Nat.reduceEqDiff, Int.reduceNeg, he, hnn, i0, nb, k10, k11, Bool.not_true]
/-- what is asked of a goal -/
structure GoalOk (ps : List (Int × Int)) (g : Int × Int) : Prop where
  ins : ∃ b, (b = true ↔ Gen ps g.1 g.2) ∧ F_law_in_sums [.va (.lst (pairsD ps)), .va (pr g)] = .ok (.bl b) [.no, .no]
  num : (Gen ps g.1 g.2 → ∃ nums : List Int, nums.length = ps.length ∧ g.1 = dot (ps.map Prod.fst) nums ∧ g.2 = dot (ps.map Prod.snd) nums ∧ Sz 40000 nums ∧ F_numbers_for [.va (.lst (pairsD ps)), .va (pr g)] = .ok (.tup (nums.map D.int)) [.no, .no]) ∧ (¬ Gen ps g.1 g.2 → F_numbers_for [.va (.lst (pairsD ps)), .va (pr g)] = .ok .non [.no, .no])
theorem b5_loop {ps : List (Int × Int)} (hps : ps.length ≤ 10) (hs : Near (6 * big.natAbs) ps) (k9 : canC c9 = true) (k5 : canC c5 = true) (p5 : plainC (some c5) = true) (p9 : plainC (some c9) = true) : ∀ (gs : List (Int × Int)) (c8 c10 c11 c12 : Cell), (∀ g ∈ gs, GoalOk ps g) → canC c8 = true → canC c10 = true → canC c11 = true → canC c12 = true →
    ∃ d8 d10 d11 d12, canC d8 = true ∧ forM (tgN 8) law_b5 (pairsD gs) (P16 c0 c1 (.va (.lst (pairsD ps))) c3 c4 c5 c6 c7 c8 c9 c10 c11 c12 c13 c14 .no) = .nx (P16 c0 c1 (.va (.lst (pairsD ps))) c3 c4 c5 c6 c7 d8 c9 d10 d11 d12 c13 c14 .no)
  | [], c8, c10, c11, c12, _, k8, _, _, _ => ⟨c8, c10, c11, c12, k8, rfl⟩
  | g :: gs, c8, c10, c11, c12, h, k8, k10, k11, k12 => by
    have hg := h g (by simp)
    obtain ⟨b, hb, he⟩ := hg.ins
    obtain ⟨d10, d11, d12, m10, m11, m12, e⟩ := b5_turn (c0 := c0) (c1 := c1) (c3 := c3) (c4 := c4) (c5 := c5) (c6 := c6) (c7 := c7) (c9 := c9) (c13 := c13) (c14 := c14) hps hs hb he hg.num k9 k10 k11 k12 k5 p5 p9
    obtain ⟨e8, e10, e11, e12, n8, e2⟩ := b5_loop hps hs k9 k5 p5 p9 gs (.va (pr g)) d10 d11 d12 (fun p hp => h p (by simp [hp])) rfl m10 m11 m12
    refine ⟨e8, e10, e11, e12, n8, ?_⟩
    show forM (tgN 8) law_b5 (pr g :: pairsD gs) _ = _
    rw [e_forS]
    simp only [sq_, seq_nx, seq_rt, seq_rf, seq_bk, seq_ct, seq_ex, loop_nx, loop_rt, loop_rf, loop_bk, loop_ct, loop_ex, s_ok_, s_ex_, bind_ok_, bind_ex_, map_ok_, map_ex_, opt_some_, nox_ok_, gd_true_, exprS_, retS_, retFS_, setS_, setOS_, ifS_, forS_, opM_, varR_, asB_, truM_, notM_, andM_, orM_, call1_, lstE_, consM_, aV_, someM_, slM_, raiseM_, andV_, orV_, ifM_, rd_va, rd_ow, rd_pa, addD_int, subD_int, ltG_int, leG_int, gtG_int, geG_int, intD1_int, intD1_bl, absD_int, lenD_lst, lenD_lsx, lenD_tup, canC_no, canC_va, canC_ow, eqD_int, neD_int, eqD_str, neD_str, e_opV, e_varM, e_rdR, e_get0, e_getS, e_set0, e_setS, e_bind, e_cst, e_setM, e_setO, canSet_, e_tgN, e_tgT, e_tgsNil, e_tgsCons, e_asgM, e_parM, e_tupM, e_lstM, e_notV, e_negM, e_seqA, e_chainM, e_callF1, e_sm1M, e_enumM, e_getL, e_list_ow, e_list_pa, e_own_ow, e_own_pa, e_getO, e_setW, e_appendM, e_aO, e_callG, e_cells0, e_cellsV, e_cellsO, e_omap, e_slots0, e_slotsV, e_slotsO, e_nodup0, e_nodup1, e_toR_ok, e_toR_ex, e_toF_fr, e_toF_ex, e_backO, e_backV, e_back0, e_tru_int, e_tru_bl, e_stepC, e_range1M, e_augPutM, e_aug1, e_aug2, e_putL, e_revF, listF, tupD, e_wipe0, e_wipeS, e_rest0, e_restS, e_for0, e_nox, e_plain_no, e_plain_va, e_all0, e_allS, Bool.and_self, Bool.true_and, fin_nx, fin_rt, fin_rf, fin_ex, kpD_kpc, e_kpc0, e_kpcS, keepC_pa, keepC_va, keepC_ow, keepC_no, if_true, if_false, Bool.true_eq, Bool.false_eq_true, decide_true, List.length_cons, List.length_nil, and_self, Nat.reduceAdd, Nat.reduceSub, Nat.reduceLeDiff, Nat.reduceEqDiff, Int.reduceNeg, k8, e, e2]
theorem b6_loop {r : D} : ∀ (ps : List (Int × Int)) (c5 : Cell), canC c5 = true → (∀ q ∈ ps, F_law_shifted [.va r, .va (.tup [.int 0, .int 0]), .va (pr q)] = .ok (pr (0, 0)) [.no, .no, .no]) →
    ∃ d5, canC d5 = true ∧ forM (tgN 5) law_b6 (pairsD ps) (P16 c0 c1 c2 c3 c4 c5 c6 c7 c8 c9 c10 c11 c12 (.va r) c14 c15) = .nx (P16 c0 c1 c2 c3 c4 d5 c6 c7 c8 c9 c10 c11 c12 (.va r) c14 c15)
  | [], c5, k, _ => ⟨c5, k, rfl⟩
  | q :: ps, c5, k, h => by
    obtain ⟨d5, k5, e⟩ := b6_loop (r := r) ps (.va (pr q)) rfl fun p hp => h p (by simp [hp])
    have e1 := h q (by simp)
    have hq : neD (pr (0, 0)) (.tup [.int 0, .int 0]) = some (.bl false) := rfl
    refine ⟨d5, k5, ?_⟩
    show forM (tgN 5) law_b6 (pr q :: pairsD ps) _ = _
    rw [e_forS]
    unfold law_b6
    unfold law_b6 at e
    simp only [sq_, seq_nx, seq_rt, seq_rf, seq_bk, seq_ct, seq_ex, loop_nx, loop_rt, loop_rf, loop_bk, loop_ct, loop_ex, s_ok_, s_ex_, bind_ok_, bind_ex_, map_ok_, map_ex_, opt_some_, nox_ok_, gd_true_, exprS_, retS_, retFS_, setS_, setOS_, ifS_, forS_, opM_, varR_, asB_, truM_, notM_, andM_, orM_, call1_, lstE_, consM_, aV_, someM_, slM_, raiseM_, andV_, orV_, ifM_, rd_va, rd_ow, rd_pa, addD_int, subD_int, ltG_int, leG_int, gtG_int, geG_int, intD1_int, intD1_bl, absD_int, lenD_lst, lenD_lsx, lenD_tup, canC_no, canC_va, canC_ow, eqD_int, neD_int, eqD_str, neD_str, e_opV, e_varM, e_rdR, e_get0, e_getS, e_set0, e_setS, e_bind, e_cst, e_setM, e_setO, canSet_, e_tgN, e_tgT, e_tgsNil, e_tgsCons, e_asgM, e_parM, e_tupM, e_lstM, e_notV, e_negM, e_seqA, e_chainM, e_callF1, e_sm1M, e_enumM, e_getL, e_list_ow, e_list_pa, e_own_ow, e_own_pa, e_getO, e_setW, e_appendM, e_aO, e_callG, e_cells0, e_cellsV, e_cellsO, e_omap, e_slots0, e_slotsV, e_slotsO, e_nodup0, e_nodup1, e_toR_ok, e_toR_ex, e_toF_fr, e_toF_ex, e_backO, e_backV, e_back0, e_tru_int, e_tru_bl, e_stepC, e_range1M, e_augPutM, e_aug1, e_aug2, e_putL, e_revF, listF, tupD, e_wipe0, e_wipeS, e_rest0, e_restS, e_for0, e_nox, e_plain_no, e_plain_va, e_all0, e_allS, Bool.and_self, Bool.true_and, fin_nx, fin_rt, fin_rf, fin_ex, kpD_kpc, e_kpc0, e_kpcS, keepC_pa, keepC_va, keepC_ow, keepC_no, if_true, if_false, Bool.true_eq, Bool.false_eq_true, decide_true, List.length_cons, List.length_nil, and_self, Nat.reduceAdd, Nat.reduceSub, Nat.reduceLeDiff, Nat.reduceEqDiff, Int.reduceNeg, k, e1, hq, e]
theorem b7_loop {ps : List (Int × Int)} {r : D} : ∀ (gs : List (Int × Int)) (c8 : Cell), canC c8 = true → (∀ g ∈ gs, ∃ b, F_law_in_sums [.va (.lst (pairsD ps)), .va (pr g)] = .ok (.bl b) [.no, .no] ∧ (b = false → ∃ z, z ≠ (0, 0) ∧ F_law_shifted [.va r, .va (.tup [.int 0, .int 0]), .va (pr g)] = .ok (pr z) [.no, .no, .no])) →
    ∃ d8, canC d8 = true ∧ forM (tgN 8) law_b7 (pairsD gs) (P16 c0 c1 (.va (.lst (pairsD ps))) c3 c4 c5 c6 c7 c8 c9 c10 c11 c12 (.va r) c14 c15) = .nx (P16 c0 c1 (.va (.lst (pairsD ps))) c3 c4 c5 c6 c7 d8 c9 c10 c11 c12 (.va r) c14 c15)
  | [], c8, k, _ => ⟨c8, k, rfl⟩
  | g :: gs, c8, k, h => by
    obtain ⟨d8, k8, e⟩ := b7_loop (ps := ps) (r := r) gs (.va (pr g)) rfl fun p hp => h p (by simp [hp])
    obtain ⟨b, e1, e2⟩ := h g (by simp)
    refine ⟨d8, k8, ?_⟩
    show forM (tgN 8) law_b7 (pr g :: pairsD gs) _ = _
    rw [e_forS]
    cases b with
    | true =>
      unfold law_b7
      unfold law_b7 at e
      simp only [sq_, seq_nx, seq_rt, seq_rf, seq_bk, seq_ct, seq_ex, loop_nx, loop_rt, loop_rf, loop_bk, loop_ct, loop_ex, s_ok_, s_ex_, bind_ok_, bind_ex_, map_ok_, map_ex_, opt_some_, nox_ok_, gd_true_, exprS_, retS_, retFS_, setS_, setOS_, ifS_, forS_, opM_, varR_, asB_, truM_, notM_, andM_, orM_, call1_, lstE_, consM_, aV_, someM_, slM_, raiseM_, andV_, orV_, ifM_, rd_va, rd_ow, rd_pa, addD_int, subD_int, ltG_int, leG_int, gtG_int, geG_int, intD1_int, intD1_bl, absD_int, lenD_lst, lenD_lsx, lenD_tup, canC_no, canC_va, canC_ow, eqD_int, neD_int, eqD_str, neD_str, e_opV, e_varM, e_rdR, e_get0, e_getS, e_set0, e_setS, e_bind, e_cst, e_setM, e_setO, canSet_, e_tgN, e_tgT, e_tgsNil, e_tgsCons, e_asgM, e_parM, e_tupM, e_lstM, e_notV, e_negM, e_seqA, e_chainM, e_callF1, e_sm1M, e_enumM, e_getL, e_list_ow, e_list_pa, e_own_ow, e_own_pa, e_getO, e_setW, e_appendM, e_aO, e_callG, e_cells0, e_cellsV, e_cellsO, e_omap, e_slots0, e_slotsV, e_slotsO, e_nodup0, e_nodup1, e_toR_ok, e_toR_ex, e_toF_fr, e_toF_ex, e_backO, e_backV, e_back0, e_tru_int, e_tru_bl, e_stepC, e_range1M, e_augPutM, e_aug1, e_aug2, e_putL, e_revF, listF, tupD, e_wipe0, e_wipeS, e_rest0, e_restS, e_for0, e_nox, e_plain_no, e_plain_va, e_all0, e_allS, Bool.and_self, Bool.true_and, fin_nx, fin_rt, fin_rf, fin_ex, kpD_kpc, e_kpc0, e_kpcS, keepC_pa, keepC_va, keepC_ow, keepC_no, if_true, if_false, Bool.true_eq, Bool.false_eq_true, decide_true, List.length_cons, List.length_nil, and_self, Nat.reduceAdd, Nat.reduceSub, Nat.reduceLeDiff, Nat.reduceEqDiff, Int.reduceNeg, k, e1, Bool.not_true, e]
    | false =>
      obtain ⟨z, hz, e3⟩ := e2 rfl
      have hq : eqD (pr z) (.tup [.int 0, .int 0]) = some (.bl false) := by
        show (eqB (pr z) (pr (0, 0))).map _ = _
        rw [eqB_pr, decide_eq_false hz]; rfl
      unfold law_b7
      unfold law_b7 at e
      simp only [sq_, seq_nx, seq_rt, seq_rf, seq_bk, seq_ct, seq_ex, loop_nx, loop_rt, loop_rf, loop_bk, loop_ct, loop_ex, s_ok_, s_ex_, bind_ok_, bind_ex_, map_ok_, map_ex_, opt_some_, nox_ok_, gd_true_, exprS_, retS_, retFS_, setS_, setOS_, ifS_, forS_, opM_, varR_, asB_, truM_, notM_, andM_, orM_, call1_, lstE_, consM_, aV_, someM_, slM_, raiseM_, andV_, orV_, ifM_, rd_va, rd_ow, rd_pa, addD_int, subD_int, ltG_int, leG_int, gtG_int, geG_int, intD1_int, intD1_bl, absD_int, lenD_lst, lenD_lsx, lenD_tup, canC_no, canC_va, canC_ow, eqD_int, neD_int, eqD_str, neD_str, e_opV, e_varM, e_rdR, e_get0, e_getS, e_set0, e_setS, e_bind, e_cst, e_setM, e_setO, canSet_, e_tgN, e_tgT, e_tgsNil, e_tgsCons, e_asgM, e_parM, e_tupM, e_lstM, e_notV, e_negM, e_seqA, e_chainM, e_callF1, e_sm1M, e_enumM, e_getL, e_list_ow, e_list_pa, e_own_ow, e_own_pa, e_getO, e_setW, e_appendM, e_aO, e_callG, e_cells0, e_cellsV, e_cellsO, e_omap, e_slots0, e_slotsV, e_slotsO, e_nodup0, e_nodup1, e_toR_ok, e_toR_ex, e_toF_fr, e_toF_ex, e_backO, e_backV, e_back0, e_tru_int, e_tru_bl, e_stepC, e_range1M, e_augPutM, e_aug1, e_aug2, e_putL, e_revF, listF, tupD, e_wipe0, e_wipeS, e_rest0, e_restS, e_for0, e_nox, e_plain_no, e_plain_va, e_all0, e_allS, Bool.and_self, Bool.true_and, fin_nx, fin_rt, fin_rf, fin_ex, kpD_kpc, e_kpc0, e_kpcS, keepC_pa, keepC_va, keepC_ow, keepC_no, if_true, if_false, Bool.true_eq, Bool.false_eq_true, decide_true, List.length_cons, List.length_nil, and_self, Nat.reduceAdd, Nat.reduceSub, Nat.reduceLeDiff, Nat.reduceEqDiff, Int.reduceNeg, k, e1, Bool.not_false, e3, hq, e]
end
end K77
end KL
set_option exponentiation.threshold 100000
/-! k77: the law is true. -/
namespace KL
namespace K77
open PySem L2
theorem shift_zero {S T M : Int} (hS : 0 < S) (hM : 0 < M) (g : Int × Int) : (0 + g.2 - (0 + g.2).fdiv M * M, (0 + g.1 + (0 + g.2).fdiv M * (-T).fmod S).fmod S) = ((0 : Int), (0 : Int)) ↔ Gen [(S, 0), (T, M)] g.1 g.2 := by
  rw [in_both hM, Int.zero_add, Int.zero_add, Prod.mk.injEq]
  have h1 := Int.mul_fdiv_add_fmod g.2 M
  have h2 := Int.mul_fdiv_add_fmod (-T) S
  have e1 : g.2 - g.2.fdiv M * M = g.2.fmod M := by rw [Int.mul_comm (g.2.fdiv M)]; omega
  rw [e1]
  have e2 : (-T).fmod S = -T - S * (-T).fdiv S := by omega
  rw [e2]
  refine and_congr Iff.rfl ?_
  rw [fmod_zero, fmod_zero]
  constructor
  · rintro ⟨k, b⟩
    exact ⟨k + g.2.fdiv M * (-T).fdiv S, by grind⟩
  · rintro ⟨k, b⟩
    exact ⟨k - g.2.fdiv M * (-T).fdiv S, by grind⟩
theorem nz_form {fs : List (List Int)} (h : Shape fs) : (nz 1 ((fs.map xy).map rw2)).length ≤ 1 := by
  have one : ∀ r : List Int, (nz 1 [r]).length ≤ 1 := fun r => List.length_filter_le _ _
  cases h with
  | zero => simp [nz]
  | low _ _ => exact one _
  | high _ => exact one _
  | @both l h h0 h1 h2 h3 h4 =>
    show ((rw2 (xy l) :: [rw2 (xy h)]).filter fun r => at_ 1 r != 0).length ≤ 1
    have e : (at_ 1 (rw2 (xy l)) != 0) = false := by
      show (at_ 1 l != 0) = false
      rw [h1]; rfl
    rw [List.filter_cons, e, if_neg (by decide)]
    exact one _
theorem law_true (ns : List Int) (hns : ns.length ≤ 63) : ∃ cs, F_law [.va (.lsx (ns.map D.int))] = .ok (.bl true) cs := by
  have bb : big.natAbs = 1000000000039 := rfl
  obtain ⟨l0, hdeck⟩ := deck_fn ns
  obtain ⟨ps, l1, hpl, hps, hpairs⟩ := draw_pairs l0 (.va (.lsx (ns.map D.int)))
  have hs44 : ∀ q ∈ ps, q.1.natAbs ≤ 2 ^ 44 ∧ q.2.natAbs ≤ 2 ^ 44 := fun q hq => by have := hps q hq; omega
  obtain ⟨fs, ok, _, hsums⟩ := sums_fn (k := 44) (by omega) (by omega) hs44
  have hfl : fs.length ≤ 2 := by
    have := ok.shape
    cases this <;> simp
  have hform := form_ok ok.shape
  -- each row is a sum
  have p53 : (2 : Nat) ^ 5300 < 2 ^ 5400 := Nat.pow_lt_pow_right (by omega) (by omega)
  have p27 : (2 : Nat) ^ 44 ≤ 2 ^ 2700 := Nat.pow_le_pow_right (by omega) (by omega)
  have p54 : (2 : Nat) ^ 60 ≤ 2 ^ 5400 := Nat.pow_le_pow_right (by omega) (by omega)
  have insP : ∀ g : Int × Int, g.1.natAbs < 2 ^ 5400 → g.2.natAbs < 2 ^ 5400 → ∃ b, (b = true ↔ Gen ps g.1 g.2) ∧ F_law_in_sums [.va (.lst (pairsD ps)), .va (pr g)] = .ok (.bl b) [.no, .no] := fun g h1 h2 =>
    is_fn (k := 45) (.inl rfl) (by omega) (fun q hq => by have := hs44 q hq; omega) (.inr ⟨by omega, fun q hq => by have := hps q hq; omega⟩) g ⟨h1, h2⟩
  have hb1 : ∀ q ∈ fs.map xy, F_law_in_sums [.va (.lst (pairsD ps)), .va (pr q)] = .ok (.bl true) [.no, .no] := fun q hq => by
    obtain ⟨r, hr, e⟩ := List.mem_map.mp hq
    have hc := ok.col r hr
    obtain ⟨b, h1, h2⟩ := insP q (by rw [← e]; exact Nat.lt_of_le_of_lt hc.1 p53) (by rw [← e]; exact Nat.lt_of_le_of_lt hc.2 p53)
    rw [h1.mpr (ok.same.2 q hq)] at h2
    exact h2
  have hb2 : ∀ q ∈ ps, F_law_in_sums [.va (.tup (pairsD (fs.map xy))), .va (pr q)] = .ok (.bl true) [.no, .no] := fun q hq => by
    have hq2 := hs44 q hq
    obtain ⟨b, h1, h2⟩ := is_fn1 (qs := fs.map xy) (.inr rfl) (by rw [List.length_map]; omega) (fun p hp => by obtain ⟨r, hr, rfl⟩ := List.mem_map.mp hp; exact ok.col r hr) (nz_form ok.shape) q ⟨by omega, by omega⟩
    rw [h1.mpr (ok.same.1 q hq)] at h2
    exact h2
  obtain ⟨d4, k4, e1⟩ := b1_loop (c0 := .va (.lsx (ns.map D.int))) (c1 := .ow (l1.map D.int)) (c3 := .va (.tup (pairsD (fs.map xy)))) (c5 := .no) (c6 := .no) (c7 := .no) (c8 := .no) (c9 := .no) (c10 := .no) (c11 := .no) (c12 := .no) (c13 := .no) (c14 := .no) (c15 := .no) (d2 := .lst (pairsD ps)) (fs.map xy) .no rfl hb1
  obtain ⟨d5, k5, e2⟩ := b2_loop (c0 := .va (.lsx (ns.map D.int))) (c1 := .ow (l1.map D.int)) (c2 := .va (.lst (pairsD ps))) (c4 := d4) (c6 := .no) (c7 := .no) (c8 := .no) (c9 := .no) (c10 := .no) (c11 := .no) (c12 := .no) (c13 := .no) (c14 := .no) (c15 := .no) (d3 := .tup (pairsD (fs.map xy))) ps .no rfl hb2
  obtain ⟨gs, l2, f5, f7, f8, f9, hgl, hgs, m5, m7, q7, m8, m9, e3⟩ := draw_goals (c0 := .va (.lsx (ns.map D.int))) (c3 := .va (.tup (pairsD (fs.map xy)))) (c4 := d4) (c10 := .no) (c11 := .no) (c12 := .no) (c13 := .no) (c14 := .no) hps hpl l1 (c5 := d5) (c7 := .no) k5 rfl
  have k4' : canC f5 = true := plain_can m5
  have hg5 : ∀ g ∈ gs, g.1.natAbs ≤ 2 ^ 48 ∧ g.2.natAbs ≤ 2 ^ 48 := fun g hg => by have := hgs g hg; omega
  have goalok : ∀ g ∈ gs, GoalOk ps g := fun g hg => by
    have h5 := hg5 g hg
    exact ⟨insP g (by omega) (by omega), nums_fn (k := 44) (by omega) (by omega) hs44 g ⟨by omega, by omega⟩⟩
  obtain ⟨g8, g10, g11, g12, n8, e4⟩ := b5_loop (c0 := .va (.lsx (ns.map D.int))) (c1 := .ow (l2.map D.int)) (c3 := .va (.tup (pairsD (fs.map xy)))) (c4 := d4) (c5 := f5) (c6 := .va (.lst (pairsD gs))) (c7 := f7) (c9 := f9) (c13 := .no) (c14 := .no) (by omega) hps (plain_can m9) k4' m5 m9 gs f8 .no .no .no goalok m8 rfl rfl rfl
  obtain ⟨S, T, M, hS, hM, hSb, hMb, hin, hout, hring⟩ := ring_fn (by omega) hs44 (by omega) hg5
  have hTb : ((-T).fmod S).natAbs < 2 ^ 6000 := by
    have := fmod_lt (a := -T) (show S ≠ 0 by omega)
    have p6 : (2 : Nat) ^ 5300 ≤ 2 ^ 6000 := Nat.pow_le_pow_right (by omega) (by omega)
    omega
  have shf : ∀ g : Int × Int, g.2.natAbs < 2 ^ 5400 → F_law_shifted [.va (.tup [.int S, .int M, .int ((-T).fmod S)]), .va (.tup [.int 0, .int 0]), .va (pr g)] = .ok (pr (0 + g.2 - (0 + g.2).fdiv M * M, (0 + g.1 + (0 + g.2).fdiv M * (-T).fmod S).fmod S)) [.no, .no, .no] := fun g hg => shifted_fn hS hM ⟨by omega, hTb⟩ g hg
  have h6 : ∀ q ∈ ps, F_law_shifted [.va (.tup [.int S, .int M, .int ((-T).fmod S)]), .va (.tup [.int 0, .int 0]), .va (pr q)] = .ok (pr (0, 0)) [.no, .no, .no] := fun q hq => by
    have := hs44 q hq
    rw [shf q (by omega), (shift_zero hS hM q).mpr (hin q hq)]
  have h7 : ∀ g ∈ gs, ∃ b, F_law_in_sums [.va (.lst (pairsD ps)), .va (pr g)] = .ok (.bl b) [.no, .no] ∧ (b = false → ∃ z, z ≠ (0, 0) ∧ F_law_shifted [.va (.tup [.int S, .int M, .int ((-T).fmod S)]), .va (.tup [.int 0, .int 0]), .va (pr g)] = .ok (pr z) [.no, .no, .no]) := fun g hg => by
    obtain ⟨b, hb, he⟩ := (goalok g hg).ins
    have h5 := hg5 g hg
    refine ⟨b, he, fun hf => ⟨_, fun hz => ?_, shf g (by omega)⟩⟩
    have := hb.mpr (hout g hg ((shift_zero hS hM g).mp hz))
    rw [hf] at this
    cases this
  obtain ⟨i5, j5, e5⟩ := b6_loop (c0 := .va (.lsx (ns.map D.int))) (c1 := .ow (l2.map D.int)) (c2 := .va (.lst (pairsD ps))) (c3 := .va (.tup (pairsD (fs.map xy)))) (c4 := d4) (c6 := .va (.lst (pairsD gs))) (c7 := f7) (c8 := g8) (c9 := f9) (c10 := g10) (c11 := g11) (c12 := g12) (c14 := .no) (c15 := .no) (r := .tup [.int S, .int M, .int ((-T).fmod S)]) ps f5 k4' h6
  obtain ⟨i8, j8, e6⟩ := b7_loop (ps := ps) (c0 := .va (.lsx (ns.map D.int))) (c1 := .ow (l2.map D.int)) (c3 := .va (.tup (pairsD (fs.map xy)))) (c4 := d4) (c5 := i5) (c6 := .va (.lst (pairsD gs))) (c7 := f7) (c9 := f9) (c10 := g10) (c11 := g11) (c12 := g12) (c14 := .no) (c15 := .no) (r := .tup [.int S, .int M, .int ((-T).fmod S)]) gs g8 n8 h7
  obtain ⟨cs, l3, hcs, hcl, e7⟩ := draw_text l2 (.va (.lsx (ns.map D.int))) (.va (.lst (pairsD ps))) (.va (.tup (pairsD (fs.map xy)))) d4 i5 (.va (.lst (pairsD gs))) f7 i8 f9 g10 g11 g12 (.va (.tup [.int S, .int M, .int ((-T).fmod S)])) .no .no q7 m7
  have hj := join_ch cs (by omega)
  have hp1 := pair_of_fn hcs
  have hp2 := law_pair_fn cs
  have t4 := take_fn l3 4 (by omega)
  obtain ⟨t, ht, htl⟩ := Cm.tk_lt l3 (m := 4) (by omega)
  rw [ht] at t4
  have hrf := refusal_fn (t := (t : Int)) (by omega)
  have heq : eqD (pr (cntP cs)) (pr (cntP cs)) = some (.bl true) := by
    show (eqB (pr (cntP cs)) (pr (cntP cs))).map _ = _
    rw [eqB_pr, decide_eq_true rfl]; rfl
  have hT1 := Int.fmod_nonneg_of_pos (-T) hS
  have hT2 := Int.fmod_lt_of_pos (-T) hS
  have r0 : ixD (.tup [.int S, .int M, .int ((-T).fmod S)]) (.int 0) = some (.int S) := rfl
  have r1 : ixD (.tup [.int S, .int M, .int ((-T).fmod S)]) (.int 1) = some (.int M) := rfl
  have r2 : ixD (.tup [.int S, .int M, .int ((-T).fmod S)]) (.int 2) = some (.int ((-T).fmod S)) := rfl
  have x0 : decide (S < 1) = false := decide_eq_false (by omega)
  have x1 : decide (M < 1) = false := decide_eq_false (by omega)
  have x2 : decide ((-T).fmod S < 0) = false := decide_eq_false (by omega)
  have x3 : decide (S ≤ (-T).fmod S) = false := decide_eq_false (by omega)
  have x4 : decide (((3 : Nat) : Int) = 3) = true := rfl
  have hrl : decide ((2 : Int) < ((pairsD (fs.map xy)).length : Nat)) = false := decide_eq_false (by rw [List.length_map, List.length_map]; omega)
  have hty : isiM "tuple" (varM 3) (P16 (.va (.lsx (ns.map D.int))) (.ow (l1.map D.int)) (.va (.lst (pairsD ps))) (.va (.tup (pairsD (fs.map xy)))) .no .no .no .no .no .no .no .no .no .no .no .no) = .ok (.bl true) (P16 (.va (.lsx (ns.map D.int))) (.ow (l1.map D.int)) (.va (.lst (pairsD ps))) (.va (.tup (pairsD (fs.map xy)))) .no .no .no .no .no .no .no .no .no .no .no .no) := rfl
  have r5 : ∀ Δ, rng1 (.int 5) Δ = .ok (rangeL 0 5) Δ := fun Δ => rng1_nat (e := 5) (by unfold lim62; omega)
  refine ⟨[.no], ?_⟩
  unfold F_law
  rw [bodyF_]
  show (m_law (P16 (.va (.lsx (ns.map D.int))) .no .no .no .no .no .no .no .no .no .no .no .no .no .no .no)).fin 1 = _
  unfold m_law
  unfold P16 at *
  simp only [sq_, seq_nx, seq_rt, seq_rf, seq_bk, seq_ct, seq_ex, loop_nx, loop_rt, loop_rf, loop_bk, loop_ct, loop_ex, s_ok_, s_ex_, bind_ok_, bind_ex_, map_ok_, map_ex_, opt_some_, nox_ok_, gd_true_, exprS_, retS_, retFS_, setS_, setOS_, ifS_, forS_, opM_, varR_, asB_, truM_, notM_, andM_, orM_, call1_, lstE_, consM_, aV_, someM_, slM_, raiseM_, andV_, orV_, ifM_, rd_va, rd_ow, rd_pa, addD_int, subD_int, ltG_int, leG_int, gtG_int, geG_int, intD1_int, intD1_bl, absD_int, lenD_lst, lenD_lsx, lenD_tup, canC_no, canC_va, canC_ow, eqD_int, neD_int, eqD_str, neD_str, e_opV, e_varM, e_rdR, e_get0, e_getS, e_set0, e_setS, e_bind, e_cst, e_setM, e_setO, canSet_, e_tgN, e_tgT, e_tgsNil, e_tgsCons, e_asgM, e_parM, e_tupM, e_lstM, e_notV, e_negM, e_seqA, e_chainM, e_callF1, e_sm1M, e_enumM, e_getL, e_list_ow, e_list_pa, e_own_ow, e_own_pa, e_getO, e_setW, e_appendM, e_aO, e_callG, e_cells0, e_cellsV, e_cellsO, e_omap, e_slots0, e_slotsV, e_slotsO, e_nodup0, e_nodup1, e_toR_ok, e_toR_ex, e_toF_fr, e_toF_ex, e_backO, e_backV, e_back0, e_tru_int, e_tru_bl, e_stepC, e_range1M, e_augPutM, e_aug1, e_aug2, e_putL, e_revF, listF, tupD, e_wipe0, e_wipeS, e_rest0, e_restS, e_for0, e_nox, e_plain_no, e_plain_va, e_all0, e_allS, Bool.and_self, Bool.true_and, fin_nx, fin_rt, fin_rf, fin_ex, kpD_kpc, e_kpc0, e_kpcS, keepC_pa, keepC_va, keepC_ow, keepC_no, if_true, if_false, Bool.true_eq, Bool.false_eq_true, decide_true, List.length_cons, List.length_nil, and_self, Nat.reduceAdd, Nat.reduceSub, Nat.reduceLeDiff, Nat.reduceEqDiff, Int.reduceNeg, hdeck, hpairs, hsums, hty, hform, hrl, Bool.not_true]
  simp only [sq_, seq_nx, seq_rt, seq_rf, seq_bk, seq_ct, seq_ex, loop_nx, loop_rt, loop_rf, loop_bk, loop_ct, loop_ex, s_ok_, s_ex_, bind_ok_, bind_ex_, map_ok_, map_ex_, opt_some_, nox_ok_, gd_true_, exprS_, retS_, retFS_, setS_, setOS_, ifS_, forS_, opM_, varR_, asB_, truM_, notM_, andM_, orM_, call1_, lstE_, consM_, aV_, someM_, slM_, raiseM_, andV_, orV_, ifM_, rd_va, rd_ow, rd_pa, addD_int, subD_int, ltG_int, leG_int, gtG_int, geG_int, intD1_int, intD1_bl, absD_int, lenD_lst, lenD_lsx, lenD_tup, canC_no, canC_va, canC_ow, eqD_int, neD_int, eqD_str, neD_str, e_opV, e_varM, e_rdR, e_get0, e_getS, e_set0, e_setS, e_bind, e_cst, e_setM, e_setO, canSet_, e_tgN, e_tgT, e_tgsNil, e_tgsCons, e_asgM, e_parM, e_tupM, e_lstM, e_notV, e_negM, e_seqA, e_chainM, e_callF1, e_sm1M, e_enumM, e_getL, e_list_ow, e_list_pa, e_own_ow, e_own_pa, e_getO, e_setW, e_appendM, e_aO, e_callG, e_cells0, e_cellsV, e_cellsO, e_omap, e_slots0, e_slotsV, e_slotsO, e_nodup0, e_nodup1, e_toR_ok, e_toR_ex, e_toF_fr, e_toF_ex, e_backO, e_backV, e_back0, e_tru_int, e_tru_bl, e_stepC, e_range1M, e_augPutM, e_aug1, e_aug2, e_putL, e_revF, listF, tupD, e_wipe0, e_wipeS, e_rest0, e_restS, e_for0, e_nox, e_plain_no, e_plain_va, e_all0, e_allS, Bool.and_self, Bool.true_and, fin_nx, fin_rt, fin_rf, fin_ex, kpD_kpc, e_kpc0, e_kpcS, keepC_pa, keepC_va, keepC_ow, keepC_no, if_true, if_false, Bool.true_eq, Bool.false_eq_true, decide_true, List.length_cons, List.length_nil, and_self, Nat.reduceAdd, Nat.reduceSub, Nat.reduceLeDiff, Nat.reduceEqDiff, Int.reduceNeg, e1]
  simp only [sq_, seq_nx, seq_rt, seq_rf, seq_bk, seq_ct, seq_ex, loop_nx, loop_rt, loop_rf, loop_bk, loop_ct, loop_ex, s_ok_, s_ex_, bind_ok_, bind_ex_, map_ok_, map_ex_, opt_some_, nox_ok_, gd_true_, exprS_, retS_, retFS_, setS_, setOS_, ifS_, forS_, opM_, varR_, asB_, truM_, notM_, andM_, orM_, call1_, lstE_, consM_, aV_, someM_, slM_, raiseM_, andV_, orV_, ifM_, rd_va, rd_ow, rd_pa, addD_int, subD_int, ltG_int, leG_int, gtG_int, geG_int, intD1_int, intD1_bl, absD_int, lenD_lst, lenD_lsx, lenD_tup, canC_no, canC_va, canC_ow, eqD_int, neD_int, eqD_str, neD_str, e_opV, e_varM, e_rdR, e_get0, e_getS, e_set0, e_setS, e_bind, e_cst, e_setM, e_setO, canSet_, e_tgN, e_tgT, e_tgsNil, e_tgsCons, e_asgM, e_parM, e_tupM, e_lstM, e_notV, e_negM, e_seqA, e_chainM, e_callF1, e_sm1M, e_enumM, e_getL, e_list_ow, e_list_pa, e_own_ow, e_own_pa, e_getO, e_setW, e_appendM, e_aO, e_callG, e_cells0, e_cellsV, e_cellsO, e_omap, e_slots0, e_slotsV, e_slotsO, e_nodup0, e_nodup1, e_toR_ok, e_toR_ex, e_toF_fr, e_toF_ex, e_backO, e_backV, e_back0, e_tru_int, e_tru_bl, e_stepC, e_range1M, e_augPutM, e_aug1, e_aug2, e_putL, e_revF, listF, tupD, e_wipe0, e_wipeS, e_rest0, e_restS, e_for0, e_nox, e_plain_no, e_plain_va, e_all0, e_allS, Bool.and_self, Bool.true_and, fin_nx, fin_rt, fin_rf, fin_ex, kpD_kpc, e_kpc0, e_kpcS, keepC_pa, keepC_va, keepC_ow, keepC_no, if_true, if_false, Bool.true_eq, Bool.false_eq_true, decide_true, List.length_cons, List.length_nil, and_self, Nat.reduceAdd, Nat.reduceSub, Nat.reduceLeDiff, Nat.reduceEqDiff, Int.reduceNeg, e2, r5]
  simp only [sq_, seq_nx, seq_rt, seq_rf, seq_bk, seq_ct, seq_ex, loop_nx, loop_rt, loop_rf, loop_bk, loop_ct, loop_ex, s_ok_, s_ex_, bind_ok_, bind_ex_, map_ok_, map_ex_, opt_some_, nox_ok_, gd_true_, exprS_, retS_, retFS_, setS_, setOS_, ifS_, forS_, opM_, varR_, asB_, truM_, notM_, andM_, orM_, call1_, lstE_, consM_, aV_, someM_, slM_, raiseM_, andV_, orV_, ifM_, rd_va, rd_ow, rd_pa, addD_int, subD_int, ltG_int, leG_int, gtG_int, geG_int, intD1_int, intD1_bl, absD_int, lenD_lst, lenD_lsx, lenD_tup, canC_no, canC_va, canC_ow, eqD_int, neD_int, eqD_str, neD_str, e_opV, e_varM, e_rdR, e_get0, e_getS, e_set0, e_setS, e_bind, e_cst, e_setM, e_setO, canSet_, e_tgN, e_tgT, e_tgsNil, e_tgsCons, e_asgM, e_parM, e_tupM, e_lstM, e_notV, e_negM, e_seqA, e_chainM, e_callF1, e_sm1M, e_enumM, e_getL, e_list_ow, e_list_pa, e_own_ow, e_own_pa, e_getO, e_setW, e_appendM, e_aO, e_callG, e_cells0, e_cellsV, e_cellsO, e_omap, e_slots0, e_slotsV, e_slotsO, e_nodup0, e_nodup1, e_toR_ok, e_toR_ex, e_toF_fr, e_toF_ex, e_backO, e_backV, e_back0, e_tru_int, e_tru_bl, e_stepC, e_range1M, e_augPutM, e_aug1, e_aug2, e_putL, e_revF, listF, tupD, e_wipe0, e_wipeS, e_rest0, e_restS, e_for0, e_nox, e_plain_no, e_plain_va, e_all0, e_allS, Bool.and_self, Bool.true_and, fin_nx, fin_rt, fin_rf, fin_ex, kpD_kpc, e_kpc0, e_kpcS, keepC_pa, keepC_va, keepC_ow, keepC_no, if_true, if_false, Bool.true_eq, Bool.false_eq_true, decide_true, List.length_cons, List.length_nil, and_self, Nat.reduceAdd, Nat.reduceSub, Nat.reduceLeDiff, Nat.reduceEqDiff, Int.reduceNeg, e3]
  simp only [sq_, seq_nx, seq_rt, seq_rf, seq_bk, seq_ct, seq_ex, loop_nx, loop_rt, loop_rf, loop_bk, loop_ct, loop_ex, s_ok_, s_ex_, bind_ok_, bind_ex_, map_ok_, map_ex_, opt_some_, nox_ok_, gd_true_, exprS_, retS_, retFS_, setS_, setOS_, ifS_, forS_, opM_, varR_, asB_, truM_, notM_, andM_, orM_, call1_, lstE_, consM_, aV_, someM_, slM_, raiseM_, andV_, orV_, ifM_, rd_va, rd_ow, rd_pa, addD_int, subD_int, ltG_int, leG_int, gtG_int, geG_int, intD1_int, intD1_bl, absD_int, lenD_lst, lenD_lsx, lenD_tup, canC_no, canC_va, canC_ow, eqD_int, neD_int, eqD_str, neD_str, e_opV, e_varM, e_rdR, e_get0, e_getS, e_set0, e_setS, e_bind, e_cst, e_setM, e_setO, canSet_, e_tgN, e_tgT, e_tgsNil, e_tgsCons, e_asgM, e_parM, e_tupM, e_lstM, e_notV, e_negM, e_seqA, e_chainM, e_callF1, e_sm1M, e_enumM, e_getL, e_list_ow, e_list_pa, e_own_ow, e_own_pa, e_getO, e_setW, e_appendM, e_aO, e_callG, e_cells0, e_cellsV, e_cellsO, e_omap, e_slots0, e_slotsV, e_slotsO, e_nodup0, e_nodup1, e_toR_ok, e_toR_ex, e_toF_fr, e_toF_ex, e_backO, e_backV, e_back0, e_tru_int, e_tru_bl, e_stepC, e_range1M, e_augPutM, e_aug1, e_aug2, e_putL, e_revF, listF, tupD, e_wipe0, e_wipeS, e_rest0, e_restS, e_for0, e_nox, e_plain_no, e_plain_va, e_all0, e_allS, Bool.and_self, Bool.true_and, fin_nx, fin_rt, fin_rf, fin_ex, kpD_kpc, e_kpc0, e_kpcS, keepC_pa, keepC_va, keepC_ow, keepC_no, if_true, if_false, Bool.true_eq, Bool.false_eq_true, decide_true, List.length_cons, List.length_nil, and_self, Nat.reduceAdd, Nat.reduceSub, Nat.reduceLeDiff, Nat.reduceEqDiff, Int.reduceNeg, e4]
  simp only [sq_, seq_nx, seq_rt, seq_rf, seq_bk, seq_ct, seq_ex, loop_nx, loop_rt, loop_rf, loop_bk, loop_ct, loop_ex, s_ok_, s_ex_, bind_ok_, bind_ex_, map_ok_, map_ex_, opt_some_, nox_ok_, gd_true_, exprS_, retS_, retFS_, setS_, setOS_, ifS_, forS_, opM_, varR_, asB_, truM_, notM_, andM_, orM_, call1_, lstE_, consM_, aV_, someM_, slM_, raiseM_, andV_, orV_, ifM_, rd_va, rd_ow, rd_pa, addD_int, subD_int, ltG_int, leG_int, gtG_int, geG_int, intD1_int, intD1_bl, absD_int, lenD_lst, lenD_lsx, lenD_tup, canC_no, canC_va, canC_ow, eqD_int, neD_int, eqD_str, neD_str, e_opV, e_varM, e_rdR, e_get0, e_getS, e_set0, e_setS, e_bind, e_cst, e_setM, e_setO, canSet_, e_tgN, e_tgT, e_tgsNil, e_tgsCons, e_asgM, e_parM, e_tupM, e_lstM, e_notV, e_negM, e_seqA, e_chainM, e_callF1, e_sm1M, e_enumM, e_getL, e_list_ow, e_list_pa, e_own_ow, e_own_pa, e_getO, e_setW, e_appendM, e_aO, e_callG, e_cells0, e_cellsV, e_cellsO, e_omap, e_slots0, e_slotsV, e_slotsO, e_nodup0, e_nodup1, e_toR_ok, e_toR_ex, e_toF_fr, e_toF_ex, e_backO, e_backV, e_back0, e_tru_int, e_tru_bl, e_stepC, e_range1M, e_augPutM, e_aug1, e_aug2, e_putL, e_revF, listF, tupD, e_wipe0, e_wipeS, e_rest0, e_restS, e_for0, e_nox, e_plain_no, e_plain_va, e_all0, e_allS, Bool.and_self, Bool.true_and, fin_nx, fin_rt, fin_rf, fin_ex, kpD_kpc, e_kpc0, e_kpcS, keepC_pa, keepC_va, keepC_ow, keepC_no, if_true, if_false, Bool.true_eq, Bool.false_eq_true, decide_true, List.length_cons, List.length_nil, and_self, Nat.reduceAdd, Nat.reduceSub, Nat.reduceLeDiff, Nat.reduceEqDiff, Int.reduceNeg, hring, x4, r0, r1, r2, x0, x1, x2, x3, Bool.not_true]
  simp only [sq_, seq_nx, seq_rt, seq_rf, seq_bk, seq_ct, seq_ex, loop_nx, loop_rt, loop_rf, loop_bk, loop_ct, loop_ex, s_ok_, s_ex_, bind_ok_, bind_ex_, map_ok_, map_ex_, opt_some_, nox_ok_, gd_true_, exprS_, retS_, retFS_, setS_, setOS_, ifS_, forS_, opM_, varR_, asB_, truM_, notM_, andM_, orM_, call1_, lstE_, consM_, aV_, someM_, slM_, raiseM_, andV_, orV_, ifM_, rd_va, rd_ow, rd_pa, addD_int, subD_int, ltG_int, leG_int, gtG_int, geG_int, intD1_int, intD1_bl, absD_int, lenD_lst, lenD_lsx, lenD_tup, canC_no, canC_va, canC_ow, eqD_int, neD_int, eqD_str, neD_str, e_opV, e_varM, e_rdR, e_get0, e_getS, e_set0, e_setS, e_bind, e_cst, e_setM, e_setO, canSet_, e_tgN, e_tgT, e_tgsNil, e_tgsCons, e_asgM, e_parM, e_tupM, e_lstM, e_notV, e_negM, e_seqA, e_chainM, e_callF1, e_sm1M, e_enumM, e_getL, e_list_ow, e_list_pa, e_own_ow, e_own_pa, e_getO, e_setW, e_appendM, e_aO, e_callG, e_cells0, e_cellsV, e_cellsO, e_omap, e_slots0, e_slotsV, e_slotsO, e_nodup0, e_nodup1, e_toR_ok, e_toR_ex, e_toF_fr, e_toF_ex, e_backO, e_backV, e_back0, e_tru_int, e_tru_bl, e_stepC, e_range1M, e_augPutM, e_aug1, e_aug2, e_putL, e_revF, listF, tupD, e_wipe0, e_wipeS, e_rest0, e_restS, e_for0, e_nox, e_plain_no, e_plain_va, e_all0, e_allS, Bool.and_self, Bool.true_and, fin_nx, fin_rt, fin_rf, fin_ex, kpD_kpc, e_kpc0, e_kpcS, keepC_pa, keepC_va, keepC_ow, keepC_no, if_true, if_false, Bool.true_eq, Bool.false_eq_true, decide_true, List.length_cons, List.length_nil, and_self, Nat.reduceAdd, Nat.reduceSub, Nat.reduceLeDiff, Nat.reduceEqDiff, Int.reduceNeg, e5]
  simp only [sq_, seq_nx, seq_rt, seq_rf, seq_bk, seq_ct, seq_ex, loop_nx, loop_rt, loop_rf, loop_bk, loop_ct, loop_ex, s_ok_, s_ex_, bind_ok_, bind_ex_, map_ok_, map_ex_, opt_some_, nox_ok_, gd_true_, exprS_, retS_, retFS_, setS_, setOS_, ifS_, forS_, opM_, varR_, asB_, truM_, notM_, andM_, orM_, call1_, lstE_, consM_, aV_, someM_, slM_, raiseM_, andV_, orV_, ifM_, rd_va, rd_ow, rd_pa, addD_int, subD_int, ltG_int, leG_int, gtG_int, geG_int, intD1_int, intD1_bl, absD_int, lenD_lst, lenD_lsx, lenD_tup, canC_no, canC_va, canC_ow, eqD_int, neD_int, eqD_str, neD_str, e_opV, e_varM, e_rdR, e_get0, e_getS, e_set0, e_setS, e_bind, e_cst, e_setM, e_setO, canSet_, e_tgN, e_tgT, e_tgsNil, e_tgsCons, e_asgM, e_parM, e_tupM, e_lstM, e_notV, e_negM, e_seqA, e_chainM, e_callF1, e_sm1M, e_enumM, e_getL, e_list_ow, e_list_pa, e_own_ow, e_own_pa, e_getO, e_setW, e_appendM, e_aO, e_callG, e_cells0, e_cellsV, e_cellsO, e_omap, e_slots0, e_slotsV, e_slotsO, e_nodup0, e_nodup1, e_toR_ok, e_toR_ex, e_toF_fr, e_toF_ex, e_backO, e_backV, e_back0, e_tru_int, e_tru_bl, e_stepC, e_range1M, e_augPutM, e_aug1, e_aug2, e_putL, e_revF, listF, tupD, e_wipe0, e_wipeS, e_rest0, e_restS, e_for0, e_nox, e_plain_no, e_plain_va, e_all0, e_allS, Bool.and_self, Bool.true_and, fin_nx, fin_rt, fin_rf, fin_ex, kpD_kpc, e_kpc0, e_kpcS, keepC_pa, keepC_va, keepC_ow, keepC_no, if_true, if_false, Bool.true_eq, Bool.false_eq_true, decide_true, List.length_cons, List.length_nil, and_self, Nat.reduceAdd, Nat.reduceSub, Nat.reduceLeDiff, Nat.reduceEqDiff, Int.reduceNeg, e6]
  simp only [sq_, seq_nx, seq_rt, seq_rf, seq_bk, seq_ct, seq_ex, loop_nx, loop_rt, loop_rf, loop_bk, loop_ct, loop_ex, s_ok_, s_ex_, bind_ok_, bind_ex_, map_ok_, map_ex_, opt_some_, nox_ok_, gd_true_, exprS_, retS_, retFS_, setS_, setOS_, ifS_, forS_, opM_, varR_, asB_, truM_, notM_, andM_, orM_, call1_, lstE_, consM_, aV_, someM_, slM_, raiseM_, andV_, orV_, ifM_, rd_va, rd_ow, rd_pa, addD_int, subD_int, ltG_int, leG_int, gtG_int, geG_int, intD1_int, intD1_bl, absD_int, lenD_lst, lenD_lsx, lenD_tup, canC_no, canC_va, canC_ow, eqD_int, neD_int, eqD_str, neD_str, e_opV, e_varM, e_rdR, e_get0, e_getS, e_set0, e_setS, e_bind, e_cst, e_setM, e_setO, canSet_, e_tgN, e_tgT, e_tgsNil, e_tgsCons, e_asgM, e_parM, e_tupM, e_lstM, e_notV, e_negM, e_seqA, e_chainM, e_callF1, e_sm1M, e_enumM, e_getL, e_list_ow, e_list_pa, e_own_ow, e_own_pa, e_getO, e_setW, e_appendM, e_aO, e_callG, e_cells0, e_cellsV, e_cellsO, e_omap, e_slots0, e_slotsV, e_slotsO, e_nodup0, e_nodup1, e_toR_ok, e_toR_ex, e_toF_fr, e_toF_ex, e_backO, e_backV, e_back0, e_tru_int, e_tru_bl, e_stepC, e_range1M, e_augPutM, e_aug1, e_aug2, e_putL, e_revF, listF, tupD, e_wipe0, e_wipeS, e_rest0, e_restS, e_for0, e_nox, e_plain_no, e_plain_va, e_all0, e_allS, Bool.and_self, Bool.true_and, fin_nx, fin_rt, fin_rf, fin_ex, kpD_kpc, e_kpc0, e_kpcS, keepC_pa, keepC_va, keepC_ow, keepC_no, if_true, if_false, Bool.true_eq, Bool.false_eq_true, decide_true, List.length_cons, List.length_nil, and_self, Nat.reduceAdd, Nat.reduceSub, Nat.reduceLeDiff, Nat.reduceEqDiff, Int.reduceNeg, e7, hj, hp1, hp2, heq, t4, hrf]
end K77
end KL
open PySem PySem.W PyProof.Rows in
set_option maxRecDepth 100000 in
set_option maxHeartbeats 0 in
theorem PySem.Challenge.cw_kinwork_k77_whole_sums_holds : PySem.Challenge.rw_kinwork_k77_whole_sums.Holds := by
  w_on; o_law; k_head; (case hw => w_witness2)
  k_fill
  refine L2.walk_of (l := PySem.Challenge.rw_kinwork_k77_whole_sums) (n := 63) (k := 7) (x := "script") (CX := fun w => L2.CX (PySem.Challenge.rw_kinwork_k77_whole_sums).prog w) (sp := fun w => KL.spTop _) rfl (by decide) rfl ⟨rfl, by decide, by decide⟩ (fun w h Y => PySem.W.kIn_of Y) ?F (fun _ _ a xs hl _ hS => ⟨a, xs, rfl, hS, hl, fun _ => rfl⟩) (fun _ _ _ _ _ z => by obtain ⟨_, _, _, _, _, _, _, _, _, _, _, _, z⟩ := z; exact z.elim)
  case F =>
    intro w mg fa h KX G hmg
    refine' KL.K77.all_mk KX G hmg ?z_abs ?z_bool ?z_enumerate ?z_int ?z_isinstance ?z_len ?z_list ?z_max ?z_min ?z_range ?z_sum ?z_tuple ?z_zip ?a_is_whole_number ?l_is_whole_number ?c_is_whole_number ?k_is_whole_number ?a_check_pairs ?l_check_pairs ?c_check_pairs ?k_check_pairs ?a_pair_of ?l_pair_of ?c_pair_of ?k_pair_of ?a_scaled ?l_scaled ?c_scaled ?k_scaled ?a_less ?l_less ?c_less ?k_less ?a_cleared ?l_cleared ?c_cleared ?k_cleared ?a_form_of ?l_form_of ?c_form_of ?k_form_of ?a_sums_of ?l_sums_of ?c_sums_of ?k_sums_of ?a_numbers_for ?l_numbers_for ?c_numbers_for ?k_numbers_for ?a_common_of ?l_common_of ?c_common_of ?k_common_of ?a_enough_for ?l_enough_for ?c_enough_for ?k_enough_for ?a_ring_of ?l_ring_of ?c_ring_of ?k_ring_of ?a_ring_for ?l_ring_for ?c_ring_for ?k_ring_for ?a_law_deck ?l_law_deck ?c_law_deck ?k_law_deck ?a_law_take ?l_law_take ?c_law_take ?k_law_take ?a_law_pair ?l_law_pair ?c_law_pair ?k_law_pair ?a_law_in_sums ?l_law_in_sums ?c_law_in_sums ?k_law_in_sums ?a_law_shifted ?l_law_shifted ?c_law_shifted ?k_law_shifted ?a_law_numbers ?l_law_numbers ?c_law_numbers ?k_law_numbers ?a_law_refusal ?l_law_refusal ?c_law_refusal ?k_law_refusal ?a_law_form ?l_law_form ?c_law_form ?k_law_form ?a_law ?l_law ?c_law ?k_law ?gS ?opq ?gC_InvalidKind ?xL_InvalidKind ?bm_ok_InvalidKind ?xi_InvalidKind ?sa_InvalidKind ?ga_InvalidKind ?gg_InvalidKind ?nb_InvalidKind ?iC_InvalidKind ?tI_InvalidKind ?kC_InvalidKind ?eC_InvalidKind ?eV_InvalidKind ?sf_InvalidKind ?tC_InvalidKind ?hC_InvalidKind ?su_InvalidKind ?lI_InvalidKind ?cI_InvalidKind ?lc_InvalidKind ?v2_InvalidKind ?fl_InvalidKind ?ll_InvalidKind ?is_InvalidKind ?ss_InvalidKind ?tp ?at_STEPS ?lt_STEPS ?kl_STEPS ?kb_STEPS ?ke_STEPS_0 ?kt_STEPS_0 ?ka_STEPS_0 ?kz_STEPS_0 ?ke_STEPS_1 ?kt_STEPS_1 ?ka_STEPS_1 ?kz_STEPS_1 ?ke_STEPS_2 ?kt_STEPS_2 ?ka_STEPS_2 ?kz_STEPS_2 ?ke_STEPS_3 ?kt_STEPS_3 ?ka_STEPS_3 ?kz_STEPS_3 KL.K77.law_true
    (case z_abs => k_is)
    (case z_bool => k_is)
    (case z_enumerate => k_is)
    (case z_int => k_is)
    (case z_isinstance => k_is)
    (case z_len => k_is)
    (case z_list => k_is)
    (case z_max => k_is)
    (case z_min => k_is)
    (case z_range => k_is)
    (case z_sum => k_is)
    (case z_tuple => k_is)
    (case z_zip => k_is)
    (case a_is_whole_number => k_is)
    (case l_is_whole_number => k_is)
    (case c_is_whole_number => k_is)
    (case k_is_whole_number => k_is)
    (case a_check_pairs => k_is)
    (case l_check_pairs => k_is)
    (case c_check_pairs => k_is)
    (case k_check_pairs => k_is)
    (case a_pair_of => k_is)
    (case l_pair_of => k_is)
    (case c_pair_of => k_is)
    (case k_pair_of => k_is)
    (case a_scaled => k_is)
    (case l_scaled => k_is)
    (case c_scaled => k_is)
    (case k_scaled => k_is)
    (case a_less => k_is)
    (case l_less => k_is)
    (case c_less => k_is)
    (case k_less => k_is)
    (case a_cleared => k_is)
    (case l_cleared => k_is)
    (case c_cleared => k_is)
    (case k_cleared => k_is)
    (case a_form_of => k_is)
    (case l_form_of => k_is)
    (case c_form_of => k_is)
    (case k_form_of => k_is)
    (case a_sums_of => k_is)
    (case l_sums_of => k_is)
    (case c_sums_of => k_is)
    (case k_sums_of => k_is)
    (case a_numbers_for => k_is)
    (case l_numbers_for => k_is)
    (case c_numbers_for => k_is)
    (case k_numbers_for => k_is)
    (case a_common_of => k_is)
    (case l_common_of => k_is)
    (case c_common_of => k_is)
    (case k_common_of => k_is)
    (case a_enough_for => k_is)
    (case l_enough_for => k_is)
    (case c_enough_for => k_is)
    (case k_enough_for => k_is)
    (case a_ring_of => k_is)
    (case l_ring_of => k_is)
    (case c_ring_of => k_is)
    (case k_ring_of => k_is)
    (case a_ring_for => k_is)
    (case l_ring_for => k_is)
    (case c_ring_for => k_is)
    (case k_ring_for => k_is)
    (case a_law_deck => k_is)
    (case l_law_deck => k_is)
    (case c_law_deck => k_is)
    (case k_law_deck => k_is)
    (case a_law_take => k_is)
    (case l_law_take => k_is)
    (case c_law_take => k_is)
    (case k_law_take => k_is)
    (case a_law_pair => k_is)
    (case l_law_pair => k_is)
    (case c_law_pair => k_is)
    (case k_law_pair => k_is)
    (case a_law_in_sums => k_is)
    (case l_law_in_sums => k_is)
    (case c_law_in_sums => k_is)
    (case k_law_in_sums => k_is)
    (case a_law_shifted => k_is)
    (case l_law_shifted => k_is)
    (case c_law_shifted => k_is)
    (case k_law_shifted => k_is)
    (case a_law_numbers => k_is)
    (case l_law_numbers => k_is)
    (case c_law_numbers => k_is)
    (case k_law_numbers => k_is)
    (case a_law_refusal => k_is)
    (case l_law_refusal => k_is)
    (case c_law_refusal => k_is)
    (case k_law_refusal => k_is)
    (case a_law_form => k_is)
    (case l_law_form => k_is)
    (case c_law_form => k_is)
    (case k_law_form => k_is)
    (case a_law => k_is)
    (case l_law => k_is)
    (case c_law => k_is)
    (case k_law => k_is)
    (case gS => k_is)
    (case opq => k_is)
    (case gC_InvalidKind => k_is)
    (case xL_InvalidKind => k_is)
    (case bm_ok_InvalidKind => first | rfl | decide +kernel)
    (case xi_InvalidKind => first | kx_is | kernel_rfl | k_is)
    (case sa_InvalidKind => k_is)
    (case ga_InvalidKind => k_is)
    (case gg_InvalidKind => k_is)
    (case nb_InvalidKind => k_is)
    (case iC_InvalidKind => k_is)
    (case tI_InvalidKind => k_is)
    (case kC_InvalidKind => k_is)
    (case eC_InvalidKind => k_is)
    (case eV_InvalidKind => k_is)
    (case sf_InvalidKind => k_is)
    (case tC_InvalidKind => k_is)
    (case hC_InvalidKind => k_is)
    (case su_InvalidKind => first | ks_is | kernel_rfl | k_is)
    (case lI_InvalidKind => k_is)
    (case cI_InvalidKind => k_is)
    (case lc_InvalidKind => k_is)
    (case v2_InvalidKind => rfl)
    (case fl_InvalidKind => first | rfl | decide +kernel)
    (case ll_InvalidKind => k_is)
    (case is_InvalidKind => k_is)
    (case ss_InvalidKind => first | rfl | k_is)
    (case tp => first | rfl | decide +kernel)
    (case at_STEPS => k_is)
    (case lt_STEPS => k_is)
    (case kl_STEPS => repeat (first | exact trivial | refine ⟨⟨_, _, rfl, rfl⟩, ?_⟩))
    (case kb_STEPS => first | rfl | decide +kernel)
    (case ke_STEPS_0 => k_is)
    (case kt_STEPS_0 => k_is)
    (case ka_STEPS_0 => first | rfl | decide +kernel)
    (case kz_STEPS_0 => first | rfl | decide +kernel)
    (case ke_STEPS_1 => k_is)
    (case kt_STEPS_1 => k_is)
    (case ka_STEPS_1 => first | rfl | decide +kernel)
    (case kz_STEPS_1 => first | rfl | decide +kernel)
    (case ke_STEPS_2 => k_is)
    (case kt_STEPS_2 => k_is)
    (case ka_STEPS_2 => first | rfl | decide +kernel)
    (case kz_STEPS_2 => first | rfl | decide +kernel)
    (case ke_STEPS_3 => k_is)
    (case kt_STEPS_3 => k_is)
    (case ka_STEPS_3 => first | rfl | decide +kernel)
    (case kz_STEPS_3 => first | rfl | decide +kernel)
#print axioms PySem.Challenge.cw_kinwork_k77_whole_sums_holds
